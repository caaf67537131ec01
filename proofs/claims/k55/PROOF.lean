import PyProof.Rows.All
import Wide.All
import OpenK.AllK
import Wide.FinOn
import HandS.ForMost
import HandS.Flow
import HandS.Zip
import KE.GoesEnum
import HandS.TupAny
import HandS.TupMul
import HandS.TupLe
import HandS.IsInst
import HandS.Wide
import HandS.Style
import HandS.RaiseMore
import KE.SortData
import KE.DataAny
import KE.DataEq
import KE.DataCmp
import KE.DatumIndex
import PyProof.ReprRoads
import HandS.More
import HandS.Conv
import HandS.Replace
import HandS.ListItems
import HandS.StrMore
import KE.KRevSl
import PyProof.Draws
import KE.GoesMore
import HandS.Set
import HandS.SetFor
import HandS.SetKeys
import PyProof.CallFns
import HandS.Words
import HandS.Ends
import PySem.Challenge.RW_allshelves_k55_whole_rows_done_to_pages
set_option Elab.async false
set_option linter.all false
set_option maxRecDepth 100000
set_option maxHeartbeats 40000000
/-! L3: values as data over the hand layer L2. -/
namespace L3
open PySem PySem.Spec PyProof.Rows L2

/-- a value as data; obj n: the n-th shared object of the store; raw: any other value -/
inductive D where
  | non | bl (b : Bool) | int (i : Int) | str (x : Str)
  | tup (ds : List D) | lst (ds : List D) | dic (ks : List Key) (ds : List D)
  | obj (n : Nat) | raw (v : V)
/-- what a shared object holds -/
inductive MO where
  | lst (ds : List D) | dic (ks : List Key) (ds : List D)
  /-- a dict while a loop walks it -/
  | lck (ks : List Key) (ds : List D)
abbrev St3 := List MO
abbrev Env3 := List (Option D)

def FzL (K : PySem.W.Frag) (F : Addr → Prop) (H : Hp) (a : Addr) (xs : List V) : Prop := (F a ∧ Rd H a (.lst xs)) ∨
  ∃ (o : Obj) (its : Array Value) (n : Nat), K.lookup a = some o ∧ o.cls = .type "list" ∧ o.dict = none ∧ o.data = .seq its n ∧ its.size ≤ sizeLine ∧ Vals xs its.toList
def FzD (F : Addr → Prop) (H : Hp) (a : Addr) (kvs : List (Key × V)) : Prop := F a ∧ Rd H a (.dK kvs)

/-- a tuple whose object is known, and has no dict -/
def SqC (K : PySem.W.Frag) (H : Hp) (a : Addr) (xs : List V) : Prop := (∃ ob, H a = some (.frz ob (.tup xs)) ∧ ob.dict = none) ∨
  ∃ (o : Obj) (its : Array Value) (n : Nat), K.lookup a = some o ∧ o.cls = .type "tuple" ∧ o.dict = none ∧ o.data = .seq its n ∧ its.size ≤ sizeLine ∧ Vals xs its.toList
theorem SqC.sq {K : PySem.W.Frag} {H : Hp} {a : Addr} {xs : List V} (h : SqC K H a xs) : SqT K H a xs := by
  rcases h with ⟨ob, h, _⟩ | ⟨o, its, n, h1, h2, _, h3, h4, h5⟩
  · exact .inl (.inr ⟨ob, h⟩)
  · exact .inr ⟨o, its, n, h1, h2, h3, h4, h5⟩
def tupO (its : List Value) : Obj := { cls := .type "tuple", data := .seq its.toArray }
mutual
def Rp (K : PySem.W.Frag) (F : Addr → Prop) (m : List Addr) (H : Hp) : D → V → Prop
  | .non, v => v = .non
  | .bl b, v => v = .bl b
  | .int i, v => v = .int i
  | .str x, v => v = .str x ∧ x.length ≤ sizeLine
  | .tup ds, v => ∃ a xs, v = .ref a ∧ SqC K H a xs ∧ Rps K F m H ds xs
  | .lst ds, v => ∃ a xs, v = .ref a ∧ FzL K F H a xs ∧ Rps K F m H ds xs
  | .dic ks ds, v => ∃ a kvs, v = .ref a ∧ FzD F H a kvs ∧ kvs.map (·.1) = ks ∧ Rps K F m H ds (kvs.map (·.2))
  | .obj n, v => ∃ a, m[n]? = some a ∧ v = .ref a
  | .raw w, v => v = w
def Rps (K : PySem.W.Frag) (F : Addr → Prop) (m : List Addr) (H : Hp) : List D → List V → Prop
  | [], xs => xs = []
  | d :: ds, xs => ∃ x r, xs = x :: r ∧ Rp K F m H d x ∧ Rps K F m H ds r
end

def RpM (K : PySem.W.Frag) (F : Addr → Prop) (m : List Addr) (H : Hp) : MO → Addr → Prop
  | .lst ds, a => ∃ xs, H a = some (.lst xs) ∧ Rps K F m H ds xs
  | .dic ks ds, a => ∃ kvs, H a = some (.dK kvs) ∧ kvs.map (·.1) = ks ∧ Rps K F m H ds (kvs.map (·.2))
  | .lck ks ds, a => ∃ kvs, Rd H a (.dK kvs) ∧ kvs.map (·.1) = ks ∧ Rps K F m H ds (kvs.map (·.2))

structure Good (K : PySem.W.Frag) (F : Addr → Prop) (m : List Addr) (H : Hp) (M : St3) : Prop where
  len : m.length = M.length
  nd : m.Nodup
  at_ : ∀ (i : Nat) (a : Addr) (o : MO), m[i]? = some a → M[i]? = some o → ¬ F a ∧ RpM K F m H o a
  fz : ∀ a, F a → (∃ xs, Rd H a (.lst xs)) ∨ ∃ kvs, Rd H a (.dK kvs)

structure Ext (F : Addr → Prop) (m : List Addr) (H : Hp) (F' : Addr → Prop) (m' : List Addr) (H' : Hp) : Prop where
  f : ∀ a, F a → F' a
  fn : ∀ a, F' a → F a ∨ H a = none
  m_ : ∃ n, m' = m ++ n ∧ ∀ a ∈ n, H a = none
  k : ∀ b o, H b = some o → b ∉ m → H' b = some o ∨ ∃ kvs od, o = .dK kvs ∧ F b ∧ H' b = some (.frz od o)
  t : ∀ b, H b ≠ none → H' b ≠ none
  z : ∀ b o u, H b = some (.frz o u) → H' b = some (.frz o u)

theorem Ext.refl (F : Addr → Prop) (m : List Addr) (H : Hp) : Ext F m H F m H :=
  ⟨fun _ h => h, fun _ h => .inl h, ⟨[], by simp, fun _ h => by cases h⟩, fun _ _ h _ => .inl h, fun _ h => h, fun _ _ _ h => h⟩
theorem Ext.trans {F F1 F2 : Addr → Prop} {m m1 m2 : List Addr} {H H1 H2 : Hp} (a : Ext F m H F1 m1 H1) (b : Ext F1 m1 H1 F2 m2 H2) : Ext F m H F2 m2 H2 := by
  have back : ∀ x, H1 x = none → H x = none := fun x e => by
    cases q : H x with
    | none => rfl
    | some o => exact absurd e (a.t x (by rw [q]; simp))
  obtain ⟨n1, e1, f1⟩ := a.m_
  obtain ⟨n2, e2, f2⟩ := b.m_
  refine ⟨fun x h => b.f x (a.f x h), fun x h => ?_, ⟨n1 ++ n2, by rw [e2, e1, List.append_assoc], fun x h => ?_⟩, fun x o h hm => ?_, fun x h => b.t x (a.t x h), fun x o u h => b.z x o u (a.z x o u h)⟩
  · rcases b.fn x h with h | h
    · exact a.fn x h
    · exact .inr (back x h)
  · rcases List.mem_append.mp h with h | h
    · exact f1 x h
    · exact back x (f2 x h)
  · have hm1 : x ∉ m1 := fun q => by
      rw [e1] at q
      rcases List.mem_append.mp q with q | q
      · exact hm q
      · rw [f1 x q] at h; cases h
    rcases a.k x o h hm with z | ⟨kvs, od, z1, z2, z3⟩
    · rcases b.k x o z hm1 with y | ⟨kvs, od, y1, y2, y3⟩
      · exact .inl y
      · refine .inr ⟨kvs, od, y1, ?_, y3⟩
        rcases a.fn x y2 with y2 | y2
        · exact y2
        · rw [y2] at h; cases h
    · rcases b.k x _ z3 hm1 with y | ⟨_, _, y1, _⟩
      · exact .inr ⟨kvs, od, z1, z2, y⟩
      · cases y1
theorem Ext.kx {F F' : Addr → Prop} {m m' : List Addr} {H H' : Hp} (e : Ext F m H F' m' H') {b : Addr} {o : HO} (h : H b = some o) (hm : b ∉ m) (ho : ∀ kvs, o ≠ .dK kvs) : H' b = some o := by
  rcases e.k b o h hm with z | ⟨kvs, _, z, _⟩
  · exact z
  · exact absurd z (ho kvs)
theorem Ext.kl {F F' : Addr → Prop} {m m' : List Addr} {H H' : Hp} (e : Ext F m H F' m' H') {b : Addr} {xs : List V} (h : Rd H b (.lst xs)) (hm : b ∉ m) : Rd H' b (.lst xs) := by
  rcases h with h | ⟨od, h⟩
  · exact .inl (e.kx h hm fun _ z => by cases z)
  · exact .inr ⟨od, e.kx h hm fun _ z => by cases z⟩
theorem Ext.kd {F F' : Addr → Prop} {m m' : List Addr} {H H' : Hp} (e : Ext F m H F' m' H') {b : Addr} {kvs : List (Key × V)} (h : Rd H b (.dK kvs)) (hm : b ∉ m) : Rd H' b (.dK kvs) := by
  rcases h with h | ⟨od, h⟩
  · rcases e.k b _ h hm with z | ⟨_, od, _, _, z⟩
    · exact .inl z
    · exact .inr ⟨od, z⟩
  · exact .inr ⟨od, e.kx h hm fun _ z => by cases z⟩

section
variable {K : PySem.W.Frag} {F F' : Addr → Prop} {m m' : List Addr} {H H' : Hp} {M M' : St3}
theorem Good.notIn (g : Good K F m H M) {a : Addr} (h : a ∈ m) : ¬ F a ∧ ((∃ xs, Rd H a (.lst xs)) ∨ ∃ kvs, Rd H a (.dK kvs)) := by
  obtain ⟨i, hi⟩ := List.getElem?_of_mem h
  have hl : i < M.length := by rw [← g.len]; exact (List.getElem?_eq_some_iff.mp hi).1
  obtain ⟨h1, h2⟩ := g.at_ i a _ hi (List.getElem?_eq_getElem hl)
  refine ⟨h1, ?_⟩
  cases q : M[i] with
  | lst ds => rw [q] at h2; obtain ⟨xs, e, _⟩ := h2; exact .inl ⟨xs, .inl e⟩
  | dic ks ds => rw [q] at h2; obtain ⟨kvs, e, _⟩ := h2; exact .inr ⟨kvs, .inl e⟩
  | lck ks ds => rw [q] at h2; obtain ⟨kvs, e, _⟩ := h2; exact .inr ⟨kvs, e⟩
theorem nin_none {H : Hp} {a : Addr} (hp : H a = none) (z : (∃ xs, Rd H a (.lst xs)) ∨ ∃ kvs, Rd H a (.dK kvs)) : False := by
  rcases z with ⟨_, e | ⟨_, e⟩⟩ | ⟨_, e | ⟨_, e⟩⟩ <;> · rw [hp] at e; cases e
theorem Good.tupNot (g : Good K F m H M) {a : Addr} {xs : List V} (h : H a = some (.tup xs)) : a ∉ m := fun q => by
  rcases (g.notIn q).2 with ⟨_, e | ⟨_, e⟩⟩ | ⟨_, e | ⟨_, e⟩⟩ <;> · rw [h] at e; cases e
theorem Good.frzNot (g : Good K F m H M) {a : Addr} {o : Obj} {xs : List V} (h : H a = some (.frz o (.tup xs))) : a ∉ m := fun q => by
  rcases (g.notIn q).2 with ⟨_, e | ⟨_, e⟩⟩ | ⟨_, e | ⟨_, e⟩⟩ <;> · rw [h] at e; cases e
theorem Good.fNot (g : Good K F m H M) {a : Addr} (h : F a) : a ∉ m := fun q => (g.notIn q).1 h
/-- what reading leans on is kept -/
structure Stb (F : Addr → Prop) (m : List Addr) (H : Hp) (F' : Addr → Prop) (m' : List Addr) (H' : Hp) : Prop where
  tp : ∀ a xs, H a = some (.tup xs) → H' a = some (.tup xs)
  fr : ∀ a o xs, H a = some (.frz o (.tup xs)) → H' a = some (.frz o (.tup xs))
  fz : ∀ a, F a → F' a ∧ (∀ xs, Rd H a (.lst xs) → Rd H' a (.lst xs)) ∧ ∀ kvs, Rd H a (.dK kvs) → Rd H' a (.dK kvs)
  m_ : ∃ n, m' = m ++ n
theorem Ext.stb (g : Good K F m H M) (e : Ext F m H F' m' H') : Stb F m H F' m' H' :=
  ⟨fun a xs h => e.kx h (g.tupNot h) (fun _ z => by cases z), fun a o u h => e.kx h (g.frzNot h) (fun _ z => by cases z),
    fun a h => ⟨e.f _ h, fun xs q => e.kl q (g.fNot h), fun kvs q => e.kd q (g.fNot h)⟩, let ⟨n, h, _⟩ := e.m_; ⟨n, h⟩⟩
/-- a list that no one else reads is written -/
theorem Stb.own {p : Addr} {o : HO} (hF : ¬ F p) (h1 : ∀ xs, H p ≠ some (.tup xs)) (h2 : ∀ o u, H p ≠ some (.frz o u)) : Stb F m H F m (upd H p o) :=
  ⟨fun a xs h => by rw [upd_ne (fun z : a = p => h1 xs (by rw [← z]; exact h))]; exact h, fun a o' u h => by rw [upd_ne (fun z : a = p => h2 o' (.tup u) (by rw [← z]; exact h))]; exact h,
    fun a h => have hn : a ≠ p := fun z => hF (by rw [← z]; exact h)
      ⟨h, fun xs q => by unfold Rd; rw [upd_ne hn]; exact q, fun kvs q => by unfold Rd; rw [upd_ne hn]; exact q⟩, [], by simp⟩
theorem SqT.stb (e : Stb F m H F' m' H') {a : Addr} {xs : List V} (h : SqT K H a xs) : SqT K H' a xs := by
  rcases h with (h | ⟨o, h⟩) | h
  · exact .inl (.inl (e.tp _ _ h))
  · exact .inl (.inr ⟨o, e.fr _ _ _ h⟩)
  · exact .inr h
theorem SqC.stb (e : Stb F m H F' m' H') {a : Addr} {xs : List V} (h : SqC K H a xs) : SqC K H' a xs := by
  rcases h with ⟨ob, h, q⟩ | h
  · exact .inl ⟨ob, e.fr _ _ _ h, q⟩
  · exact .inr h
theorem FzL.stb (e : Stb F m H F' m' H') {a : Addr} {xs : List V} (h : FzL K F H a xs) : FzL K F' H' a xs := h.imp (fun h => ⟨(e.fz _ h.1).1, (e.fz _ h.1).2.1 _ h.2⟩) id
theorem FzL.sq {a : Addr} {xs : List V} (h : FzL K F H a xs) : SqL K H a xs := h.imp (·.2) id
mutual
theorem Rp.stb (e : Stb F m H F' m' H') : ∀ (d : D) (v : V), Rp K F m H d v → Rp K F' m' H' d v
  | .non, _, h => by simpa [Rp] using h
  | .bl _, _, h => by simpa [Rp] using h
  | .int _, _, h => by simpa [Rp] using h
  | .str _, _, h => by simpa [Rp] using h
  | .tup ds, _, h => by
    simp only [Rp] at h ⊢
    obtain ⟨a, xs, e1, h1, h2⟩ := h
    exact ⟨a, xs, e1, SqC.stb e h1, Rps.stb e ds xs h2⟩
  | .lst ds, _, h => by
    simp only [Rp] at h ⊢
    obtain ⟨a, xs, e1, h1, h2⟩ := h
    exact ⟨a, xs, e1, FzL.stb e h1, Rps.stb e ds xs h2⟩
  | .dic ks ds, _, h => by
    simp only [Rp] at h ⊢
    obtain ⟨a, kvs, e1, ⟨h1, h3⟩, hk, h2⟩ := h
    exact ⟨a, kvs, e1, ⟨(e.fz _ h1).1, (e.fz _ h1).2.2 _ h3⟩, hk, Rps.stb e ds _ h2⟩
  | .obj n, _, h => by
    simp only [Rp] at h ⊢
    obtain ⟨a, h1, h2⟩ := h
    obtain ⟨n', e1⟩ := e.m_
    exact ⟨a, by rw [e1]; rw [List.getElem?_append_left (List.getElem?_eq_some_iff.mp h1).1]; exact h1, h2⟩
  | .raw _, _, h => by simpa [Rp] using h
theorem Rps.stb (e : Stb F m H F' m' H') : ∀ (ds : List D) (xs : List V), Rps K F m H ds xs → Rps K F' m' H' ds xs
  | [], _, h => by simpa [Rps] using h
  | d :: ds, _, h => by
    simp only [Rps] at h ⊢
    obtain ⟨x, r, e1, h1, h2⟩ := h
    exact ⟨x, r, e1, Rp.stb e d x h1, Rps.stb e ds r h2⟩
end
theorem Rp.ext (g : Good K F m H M) (e : Ext F m H F' m' H') (d : D) (v : V) (h : Rp K F m H d v) : Rp K F' m' H' d v := Rp.stb (e.stb g) d v h
theorem Rps.ext (g : Good K F m H M) (e : Ext F m H F' m' H') (ds : List D) (xs : List V) (h : Rps K F m H ds xs) : Rps K F' m' H' ds xs := Rps.stb (e.stb g) ds xs h
theorem SqT.ext (g : Good K F m H M) (e : Ext F m H F' m' H') {a : Addr} {xs : List V} (h : SqT K H a xs) : SqT K H' a xs := SqT.stb (e.stb g) h
theorem SqC.ext (g : Good K F m H M) (e : Ext F m H F' m' H') {a : Addr} {xs : List V} (h : SqC K H a xs) : SqC K H' a xs := SqC.stb (e.stb g) h
theorem FzL.ext (g : Good K F m H M) (e : Ext F m H F' m' H') {a : Addr} {xs : List V} (h : FzL K F H a xs) : FzL K F' H' a xs := FzL.stb (e.stb g) h
theorem Rps.length : ∀ {ds : List D} {xs : List V}, Rps K F m H ds xs → ds.length = xs.length
  | [], _, h => by simp only [Rps] at h; rw [h]; rfl
  | d :: ds, _, h => by
    simp only [Rps] at h
    obtain ⟨x, r, e1, _, h2⟩ := h
    rw [e1, List.length_cons, List.length_cons, Rps.length h2]
theorem Rps.get : ∀ {ds : List D} {xs : List V} {i : Nat} {d : D}, Rps K F m H ds xs → ds[i]? = some d → ∃ x, xs[i]? = some x ∧ Rp K F m H d x
  | [], _, _, _, _, e => by simp at e
  | d :: ds, _, 0, _, h, e => by
    simp only [Rps] at h
    obtain ⟨x, r, rfl, h1, h2⟩ := h
    simp at e; subst e
    exact ⟨x, rfl, h1⟩
  | d :: ds, _, i + 1, _, h, e => by
    simp only [Rps] at h
    obtain ⟨x, r, rfl, h1, h2⟩ := h
    obtain ⟨y, e1, e2⟩ := Rps.get (i := i) h2 (by simpa using e)
    exact ⟨y, by simpa using e1, e2⟩
theorem Rps.get' : ∀ {ds : List D} {xs : List V} {i : Nat} {x : V}, Rps K F m H ds xs → xs[i]? = some x → ∃ d, ds[i]? = some d ∧ Rp K F m H d x
  | [], _, _, _, h, e => by simp only [Rps] at h; subst h; simp at e
  | d :: ds, _, 0, _, h, e => by
    simp only [Rps] at h
    obtain ⟨x, r, rfl, h1, h2⟩ := h
    simp at e; subst e
    exact ⟨d, rfl, h1⟩
  | d :: ds, _, i + 1, _, h, e => by
    simp only [Rps] at h
    obtain ⟨x, r, rfl, h1, h2⟩ := h
    obtain ⟨y, e1, e2⟩ := Rps.get' (i := i) h2 (by simpa using e)
    exact ⟨y, by simpa using e1, e2⟩
theorem Rps.append : ∀ {ds es : List D} {xs ys : List V}, Rps K F m H ds xs → Rps K F m H es ys → Rps K F m H (ds ++ es) (xs ++ ys)
  | [], _, _, _, h, q => by simp only [Rps] at h; subst h; simpa using q
  | d :: ds, _, _, _, h, q => by
    simp only [Rps] at h
    obtain ⟨x, r, rfl, h1, h2⟩ := h
    simp only [List.cons_append, Rps]
    exact ⟨x, _, rfl, h1, Rps.append h2 q⟩
theorem Rps.take : ∀ {ds : List D} {xs : List V} (n : Nat), Rps K F m H ds xs → Rps K F m H (ds.take n) (xs.take n)
  | _, _, 0, _ => by simp [Rps]
  | [], _, _ + 1, h => by simp only [Rps] at h; subst h; simp [Rps]
  | d :: ds, _, n + 1, h => by
    simp only [Rps] at h
    obtain ⟨x, r, rfl, h1, h2⟩ := h
    simp only [List.take_succ_cons, Rps]
    exact ⟨x, _, rfl, h1, Rps.take n h2⟩
theorem Rps.drop : ∀ {ds : List D} {xs : List V} (n : Nat), Rps K F m H ds xs → Rps K F m H (ds.drop n) (xs.drop n)
  | _, _, 0, h => by simpa using h
  | [], _, _ + 1, h => by simp only [Rps] at h; subst h; simp [Rps]
  | d :: ds, _, n + 1, h => by
    simp only [Rps] at h
    obtain ⟨x, r, rfl, h1, h2⟩ := h
    simpa using Rps.drop n h2
theorem Rps.of_get : ∀ {ds : List D} {xs : List V}, ds.length = xs.length → (∀ (i : Nat) d x, ds[i]? = some d → xs[i]? = some x → Rp K F m H d x) → Rps K F m H ds xs
  | [], [], _, _ => by simp [Rps]
  | d :: ds, x :: xs, hl, h => by
    simp only [Rps]
    exact ⟨x, xs, rfl, h 0 d x rfl rfl, Rps.of_get (by simpa using hl) fun i e y h1 h2 => h (i + 1) e y (by simpa using h1) (by simpa using h2)⟩
theorem Rps.one {d : D} {v : V} (h : Rp K F m H d v) : Rps K F m H [d] [v] := by simp only [Rps]; exact ⟨v, [], rfl, h, rfl⟩
theorem Rps.nil : Rps K F m H [] [] := by simp [Rps]
theorem Rps.cons {d : D} {ds : List D} {v : V} {vs : List V} (h : Rp K F m H d v) (t : Rps K F m H ds vs) : Rps K F m H (d :: ds) (v :: vs) := by simp only [Rps]; exact ⟨v, vs, rfl, h, t⟩
theorem Rps.cons_inv {d : D} {ds : List D} {xs : List V} (h : Rps K F m H (d :: ds) xs) : ∃ x r, xs = x :: r ∧ Rp K F m H d x ∧ Rps K F m H ds r := by simpa only [Rps] using h
theorem Rps.nil_inv {xs : List V} (h : Rps K F m H [] xs) : xs = [] := by simpa only [Rps] using h
theorem Rps.set {d : D} {v : V} (r : Rp K F m H d v) : ∀ {ds : List D} {xs : List V} (i : Nat), Rps K F m H ds xs → Rps K F m H (ds.set i d) (xs.set i v)
  | [], _, _, h => by simp only [Rps] at h; subst h; simp [Rps]
  | e :: ds, _, 0, h => by
    simp only [Rps] at h
    obtain ⟨x, q, rfl, h1, h2⟩ := h
    simp only [List.set_cons_zero, Rps]
    exact ⟨v, q, rfl, r, h2⟩
  | e :: ds, _, i + 1, h => by
    simp only [Rps] at h
    obtain ⟨x, q, rfl, h1, h2⟩ := h
    simp only [List.set_cons_succ, Rps]
    exact ⟨x, _, rfl, h1, Rps.set r i h2⟩

/-- a new tracked object is laid: what is read stays -/
theorem Ext.laid {p : Addr} {o : HO} (hp : H p = none) : Ext F m H F m (upd H p o) :=
  ⟨fun _ h => h, fun _ h => .inl h, ⟨[], by simp, fun _ h => by cases h⟩, fun b o' e _ => .inl (by rw [upd_ne (ne_of_none e hp)]; exact e), fun b h => by
    by_cases e : b = p
    · subst e; exact absurd hp h
    · rw [upd_ne e]; exact h, fun b o' u e => by rw [upd_ne (ne_of_none e hp)]; exact e⟩
theorem Ext.frozen {p : Addr} {o : HO} (hp : H p = none) : Ext F m H (fun a => F a ∨ a = p) m (upd H p o) :=
  ⟨fun _ h => .inl h, fun a h => by
    rcases h with h | h
    · exact .inl h
    · subst h; exact .inr hp, ⟨[], by simp, fun _ h => by cases h⟩, fun b o' e _ => .inl (by rw [upd_ne (ne_of_none e hp)]; exact e), fun b h => by
    by_cases e : b = p
    · subst e; exact absurd hp h
    · rw [upd_ne e]; exact h, fun b o' u e => by rw [upd_ne (ne_of_none e hp)]; exact e⟩
theorem Ext.shared {p : Addr} {o : HO} (hp : H p = none) : Ext F m H F (m ++ [p]) (upd H p o) :=
  ⟨fun _ h => h, fun a h => .inl h, ⟨[p], rfl, fun a h => by simp at h; subst h; exact hp⟩, fun b o' e _ => .inl (by rw [upd_ne (ne_of_none e hp)]; exact e), fun b h => by
    by_cases e : b = p
    · subst e; exact absurd hp h
    · rw [upd_ne e]; exact h, fun b o' u e => by rw [upd_ne (ne_of_none e hp)]; exact e⟩
theorem RpM.ext (g : Good K F m H M) (e : Ext F m H F' m' H') {o : MO} {a : Addr} (h : RpM K F m H o a) (hs : H' a = H a) : RpM K F' m' H' o a := by
  cases o with
  | lst ds => obtain ⟨xs, h1, h2⟩ := h; exact ⟨xs, by rw [hs]; exact h1, Rps.ext g e _ _ h2⟩
  | dic ks ds => obtain ⟨kvs, h1, hk, h2⟩ := h; exact ⟨kvs, by rw [hs]; exact h1, hk, Rps.ext g e _ _ h2⟩
  | lck ks ds => obtain ⟨kvs, h1, hk, h2⟩ := h; exact ⟨kvs, by unfold Rd; rw [hs]; exact h1, hk, Rps.ext g e _ _ h2⟩
theorem Good.laid (g : Good K F m H M) {p : Addr} {o : HO} (hp : H p = none) : Good K F m (upd H p o) M := by
  refine ⟨g.len, g.nd, fun i a o' h1 h2 => ?_, fun a h => ?_⟩
  · obtain ⟨h3, h4⟩ := g.at_ i a o' h1 h2
    have hm : a ∈ m := List.mem_of_getElem? h1
    have hne : a ≠ p := fun z => by
      subst z
      exact nin_none hp (g.notIn hm).2
    exact ⟨h3, RpM.ext g (Ext.laid hp) h4 (upd_ne hne)⟩
  · have hne : a ≠ p := fun z => by
      subst z
      exact nin_none hp (g.fz a h)
    unfold Rd; rw [upd_ne hne]; exact g.fz a h
theorem Good.frozen (g : Good K F m H M) {p : Addr} {o : HO} (hp : H p = none) (ho : (∃ xs, o = .lst xs) ∨ ∃ kvs, o = .dK kvs) : Good K (fun a => F a ∨ a = p) m (upd H p o) M := by
  refine ⟨g.len, g.nd, fun i a o' h1 h2 => ?_, fun a h => ?_⟩
  · obtain ⟨h3, h4⟩ := g.at_ i a o' h1 h2
    have hm : a ∈ m := List.mem_of_getElem? h1
    have hne : a ≠ p := fun z => by
      subst z
      exact nin_none hp (g.notIn hm).2
    exact ⟨fun q => q.elim h3 hne, RpM.ext g (Ext.frozen hp) h4 (upd_ne hne)⟩
  · by_cases e : a = p
    · subst e
      unfold Rd
      rw [upd_same]
      rcases ho with ⟨xs, e⟩ | ⟨kvs, e⟩
      · exact .inl ⟨xs, .inl (by rw [e])⟩
      · exact .inr ⟨kvs, .inl (by rw [e])⟩
    · unfold Rd; rw [upd_ne e]; exact g.fz a (h.resolve_right e)
theorem Good.shared (g : Good K F m H M) {p : Addr} {o : HO} {u : MO} (hp : H p = none) (r : RpM K F (m ++ [p]) (upd H p o) u p) : Good K F (m ++ [p]) (upd H p o) (M ++ [u]) := by
  have hpm : p ∉ m := fun z => by
    exact nin_none hp (g.notIn z).2
  have hpF : ¬ F p := fun z => by
    exact nin_none hp (g.fz p z)
  refine ⟨by simp [g.len], ?_, fun i a o' h1 h2 => ?_, fun a h => ?_⟩
  · rw [List.nodup_append]
    refine ⟨g.nd, by simp, fun a ha b hb => ?_⟩
    simp at hb; subst hb; intro z; subst z; exact hpm ha
  · by_cases hi : i < m.length
    · rw [List.getElem?_append_left hi] at h1
      rw [List.getElem?_append_left (by rw [← g.len]; exact hi)] at h2
      obtain ⟨h3, h4⟩ := g.at_ i a o' h1 h2
      have hne : a ≠ p := fun z => hpm (z ▸ List.mem_of_getElem? h1)
      exact ⟨h3, RpM.ext g (Ext.shared hp) h4 (upd_ne hne)⟩
    · have hi' : i = m.length := by
        have := (List.getElem?_eq_some_iff.mp h1).1
        simp at this; omega
      subst hi'
      rw [List.getElem?_append_right (Nat.le_refl _)] at h1
      rw [List.getElem?_append_right (by rw [g.len]; exact Nat.le_refl _)] at h2
      simp at h1
      rw [g.len] at h2; simp at h2
      subst h1 h2
      exact ⟨hpF, r⟩
  · have hne : a ≠ p := fun z => hpF (z ▸ h)
    unfold Rd; rw [upd_ne hne]; exact g.fz a h
/-- a shared object is written -/
theorem Ext.write (g : Good K F m H M) {p : Addr} {o : HO} (hp : p ∈ m) (hn : ∀ o' u, H p ≠ some (.frz o' u)) : Ext F m H F m (upd H p o) :=
  ⟨fun _ h => h, fun _ h => .inl h, ⟨[], by simp, fun _ h => by cases h⟩, fun b o' e hb => .inl (by
    rw [upd_ne (fun z : b = p => hb (by rw [z]; exact hp))]; exact e), fun b h => by
    by_cases e : b = p
    · subst e; rw [upd_same]; simp
    · rw [upd_ne e]; exact h, fun b o' u e => by
    rw [upd_ne (fun q : b = p => hn o' u (by rw [← q]; exact e))]; exact e⟩
theorem Good.write (g : Good K F m H M) {i : Nat} {p : Addr} {o : HO} {u : MO} (hp : m[i]? = some p) (hn : ∀ o' u, H p ≠ some (.frz o' u)) (r : RpM K F m (upd H p o) u p) : Good K F m (upd H p o) (M.set i u) := by
  have hpm : p ∈ m := List.mem_of_getElem? hp
  refine ⟨by simp [g.len], g.nd, fun j a o' h1 h2 => ?_, fun a h => ?_⟩
  · by_cases hij : j = i
    · subst hij
      rw [hp] at h1; cases h1
      rw [List.getElem?_set_self (by rw [← g.len]; exact (List.getElem?_eq_some_iff.mp hp).1)] at h2
      cases h2
      exact ⟨(g.notIn hpm).1, r⟩
    · rw [List.getElem?_set_ne (Ne.symm hij)] at h2
      obtain ⟨h3, h4⟩ := g.at_ j a o' h1 h2
      have hne : a ≠ p := fun z => by
        subst z
        obtain ⟨l1, e1⟩ := List.getElem?_eq_some_iff.mp h1
        obtain ⟨l2, e2⟩ := List.getElem?_eq_some_iff.mp hp
        exact hij ((List.getElem_inj g.nd).mp (e1.trans e2.symm))
      exact ⟨h3, RpM.ext g (Ext.write g hpm hn) h4 (upd_ne hne)⟩
  · have hne : a ≠ p := fun z => (g.notIn hpm).1 (z ▸ h)
    unfold Rd; rw [upd_ne hne]; exact g.fz a h
end

theorem Good.own {K : PySem.W.Frag} {F : Addr → Prop} {m : List Addr} {H : Hp} {M : St3} (g : Good K F m H M) {p : Addr} {o : HO} {xs : List V} (hF : ¬ F p) (hm : p ∉ m) (hp : H p = some (.lst xs)) : Good K F m (upd H p o) M ∧ Stb F m H F m (upd H p o) := by
  have st : Stb F m H F m (upd H p o) := Stb.own hF (fun _ z => by rw [hp] at z; cases z) fun _ _ z => by rw [hp] at z; cases z
  refine ⟨⟨g.len, g.nd, fun i a o' h1 h2 => ?_, fun a h => ?_⟩, st⟩
  · obtain ⟨h3, h4⟩ := g.at_ i a o' h1 h2
    have hne : a ≠ p := fun z => hm (by rw [← z]; exact List.mem_of_getElem? h1)
    refine ⟨h3, ?_⟩
    cases o' with
    | lst ds => obtain ⟨ys, e1, e2⟩ := h4; exact ⟨ys, by rw [upd_ne hne]; exact e1, Rps.stb st _ _ e2⟩
    | dic ks ds => obtain ⟨kvs, e1, hk, e2⟩ := h4; exact ⟨kvs, by rw [upd_ne hne]; exact e1, hk, Rps.stb st _ _ e2⟩
    | lck ks ds => obtain ⟨kvs, e1, hk, e2⟩ := h4; exact ⟨kvs, by unfold Rd; rw [upd_ne hne]; exact e1, hk, Rps.stb st _ _ e2⟩
  · unfold Rd; rw [upd_ne (fun z : a = p => hF (by rw [← z]; exact h))]; exact g.fz a h

/-- where a def stands: the heap, the frozen and the shared objects at its entry -/
structure Ctx where
  F : Addr → Prop
  m : List Addr
  H : Hp
structure World (K : PySem.W.Frag) (c : Ctx) (F : Addr → Prop) (m : List Addr) (M : St3) (H : Hp) : Prop where
  ext : Ext c.F c.m c.H F m H
  good : Good K F m H M
theorem World.step {K : PySem.W.Frag} {c : Ctx} {F F' : Addr → Prop} {m m' : List Addr} {M M' : St3} {H H' : Hp} (w : World K c F m M H) (e : Ext F m H F' m' H') (g : Good K F' m' H' M') : World K c F' m' M' H' :=
  ⟨w.ext.trans e, g⟩
structure Re (K : PySem.W.Frag) (F : Addr → Prop) (m : List Addr) (H : Hp) (env : Env3) (σ : L2.St) : Prop where
  len : env.length = σ.length
  at_ : ∀ (i : Nat) (d : D), env[i]? = some (some d) → ∃ v, σ[i]? = some (some v) ∧ Rp K F m H d v
theorem Re.ext {K : PySem.W.Frag} {F F' : Addr → Prop} {m m' : List Addr} {M : St3} {H H' : Hp} {env : Env3} {σ : L2.St} (r : Re K F m H env σ) (g : Good K F m H M) (e : Ext F m H F' m' H') : Re K F' m' H' env σ :=
  ⟨r.len, fun i d h => let ⟨v, h1, h2⟩ := r.at_ i d h; ⟨v, h1, Rp.ext g e d v h2⟩⟩
theorem Re.set {K : PySem.W.Frag} {F : Addr → Prop} {m : List Addr} {H : Hp} {env : Env3} {σ : L2.St} {i : Nat} {d : D} {v : V} (r : Re K F m H env σ) (h : Rp K F m H d v) : Re K F m H (env.set i (some d)) (σ.set i (some v)) := by
  refine ⟨by simp [r.len], fun j e h1 => ?_⟩
  by_cases hj : j = i
  · subst hj
    have hl : j < env.length := by
      have := (List.getElem?_eq_some_iff.mp h1).1
      simpa using this
    rw [List.getElem?_set_self hl] at h1
    cases h1
    exact ⟨v, List.getElem?_set_self (by rw [← r.len]; exact hl), h⟩
  · rw [List.getElem?_set_ne (Ne.symm hj)] at h1
    rw [List.getElem?_set_ne (Ne.symm hj)]
    exact r.at_ j e h1

/-! ### readings over data -/
abbrev KD := D → St3 → Prop
abbrev TD := Env3 → St3 → KD → Prop
abbrev TDT := Env3 → St3 → (Bool → St3 → Prop) → Prop
abbrev TDA := Env3 → St3 → (List D → St3 → Prop) → Prop

/-- what a data reading wants, over the heap -/
def Fin (K : PySem.W.Frag) (F : Addr → Prop) (m : List Addr) (H : Hp) (P : KD) : VK := fun v H' =>
  ∃ d M' F' m', P d M' ∧ Ext F m H F' m' H' ∧ Good K F' m' H' M' ∧ Rp K F' m' H' d v
structure PD (X : Cx) (c : Ctx) (e : Expr) (t : TD) : Prop where
  run : ∀ (pins : List (Addr × Obj)) (s : Shared) (σ : L2.St) (H : Hp) (F : Addr → Prop) (m : List Addr) (M : St3) (env : Env3) (P : KD),
    Inv X pins σ H s → World X.K c F m M H → Re X.K F m H env σ → t env M P →
    wpAny (model X.prog X.w) X.A (eval e X.env) (EP X pins σ (Fin X.K F m H P)) X.xe s
def LE (K : PySem.W.Frag) (c : Ctx) (t : TD) : TE := fun σ H Q => ∃ (F : Addr → Prop) (m : List Addr) (M : St3) (env : Env3) (P : KD),
  World K c F m M H ∧ Re K F m H env σ ∧ t env M P ∧ ∀ v H', Fin K F m H P v H' → Q v H'
theorem PD.pe {X : Cx} {c : Ctx} {e : Expr} {t : TD} (h : PD X c e t) : PE X e (LE X.K c t) := ⟨fun pins s σ H Q I ⟨F, m, M, env, P, w, r, ht, q⟩ =>
  thn (h.run pins s σ H F m M env P I w r ht) fun u s' ⟨v, H', I', rv, f⟩ => ⟨v, H', I', rv, q v H' f⟩⟩
theorem PD.of {X : Cx} {c : Ctx} {e : Expr} {t : TD} {t' : TE} (h : PE X e t')
    (q : ∀ (σ : L2.St) (H : Hp) (F : Addr → Prop) (m : List Addr) (M : St3) (env : Env3) (P : KD), World X.K c F m M H → Re X.K F m H env σ → t env M P → t' σ H (Fin X.K F m H P)) : PD X c e t :=
  ⟨fun pins s σ H F m M env P I w r ht => h.run pins s σ H _ I (q σ H F m M env P w r ht)⟩
structure PDT (X : Cx) (c : Ctx) (e : Expr) (t : TDT) : Prop where
  run : ∀ (pins : List (Addr × Obj)) (s : Shared) (σ : L2.St) (H : Hp) (F : Addr → Prop) (m : List Addr) (M : St3) (env : Env3) (P : Bool → St3 → Prop),
    Inv X pins σ H s → World X.K c F m M H → Re X.K F m H env σ → t env M P →
    wpAny (model X.prog X.w) X.A (isTrue e X.env (eval e X.env)) (TP X pins σ fun b H' => ∃ M' F' m', P b M' ∧ Ext F m H F' m' H' ∧ Good X.K F' m' H' M') X.xe s
def LT (K : PySem.W.Frag) (c : Ctx) (t : TDT) : TT := fun σ H Q => ∃ (F : Addr → Prop) (m : List Addr) (M : St3) (env : Env3) (P : Bool → St3 → Prop),
  World K c F m M H ∧ Re K F m H env σ ∧ t env M P ∧ ∀ b H' M' F' m', P b M' → Ext F m H F' m' H' → Good K F' m' H' M' → Q b H'
theorem PDT.pt {X : Cx} {c : Ctx} {e : Expr} {t : TDT} (h : PDT X c e t) : PT X e (LT X.K c t) := ⟨fun pins s σ H Q I ⟨F, m, M, env, P, w, r, ht, q⟩ =>
  thn (h.run pins s σ H F m M env P I w r ht) fun b s' ⟨H', I', M', F', m', p, e, g⟩ => ⟨H', I', q b H' M' F' m' p e g⟩⟩
theorem PDT.of {X : Cx} {c : Ctx} {e : Expr} {t : TDT} {t' : TT} (h : PT X e t')
    (q : ∀ (σ : L2.St) (H : Hp) (F : Addr → Prop) (m : List Addr) (M : St3) (env : Env3) (P : Bool → St3 → Prop), World X.K c F m M H → Re X.K F m H env σ → t env M P →
      t' σ H fun b H' => ∃ M' F' m', P b M' ∧ Ext F m H F' m' H' ∧ Good X.K F' m' H' M') : PDT X c e t :=
  ⟨fun pins s σ H F m M env P I w r ht => h.run pins s σ H _ I (q σ H F m M env P w r ht)⟩
/-- argument lists -/
structure PDA (X : Cx) (c : Ctx) (es : List Expr) (t : TDA) : Prop where
  run : ∀ (pos : Pos) (pins : List (Addr × Obj)) (s : Shared) (σ : L2.St) (H : Hp) (F : Addr → Prop) (m : List Addr) (M : St3) (env : Env3) (P : List D → St3 → Prop),
    Inv X pins σ H s → World X.K c F m M H → Re X.K F m H env σ → t env M P →
    wpAny (model X.prog X.w) X.A (spliced (backTo pos (starEach es X.env))) (AP X pins σ fun vs H' => ∃ ds M' F' m', P ds M' ∧ Ext F m H F' m' H' ∧ Good X.K F' m' H' M' ∧ Rps X.K F' m' H' ds vs) X.xe s
def LA (K : PySem.W.Frag) (c : Ctx) (t : TDA) : TA := fun σ H Q => ∃ (F : Addr → Prop) (m : List Addr) (M : St3) (env : Env3) (P : List D → St3 → Prop),
  World K c F m M H ∧ Re K F m H env σ ∧ t env M P ∧ ∀ vs H' ds M' F' m', P ds M' → Ext F m H F' m' H' → Good K F' m' H' M' → Rps K F' m' H' ds vs → Q vs H'
theorem PDA.pa {X : Cx} {c : Ctx} {es : List Expr} {t : TDA} (h : PDA X c es t) : PA X es (LA X.K c t) := ⟨fun pos pins s σ H Q I ⟨F, m, M, env, P, w, r, ht, q⟩ =>
  thn (h.run pos pins s σ H F m M env P I w r ht) fun u s' ⟨vs, H', I', rv, ds, M', F', m', p, e, g, rp⟩ => ⟨vs, H', I', rv, q vs H' ds M' F' m' p e g rp⟩⟩

/-! ### the simple expressions -/
def dVar (i : Nat) : TD := fun env M P => ∃ d, env[i]? = some (some d) ∧ P d M
def dC (d : D) : TD := fun _ M P => P d M
section
variable {X : Cx} {c : Ctx}
theorem Fin.now {K : PySem.W.Frag} {F : Addr → Prop} {m : List Addr} {M : St3} {H : Hp} {P : KD} {d : D} {v : V} (g : Good K F m H M) (p : P d M) (r : Rp K F m H d v) : Fin K F m H P v H :=
  ⟨d, M, F, m, p, Ext.refl _ _ _, g, r⟩
theorem pd_var {i : Nat} {x : Str} {pos : Pos} (hN : X.N[i]? = some x) (hv : Vis X.env.scope x) (hd : (x == ("__debug__" : Str)) = false) (hcd : (x == ("__classdict__" : Str)) = false) : PD X c (.Name x pos) (dVar i) :=
  PD.of (pe_var hN hv hd hcd) fun σ H F m M env P w r ⟨d, h1, h2⟩ => by
    obtain ⟨v, e, rp⟩ := r.at_ i d h1
    exact ⟨v, e, Fin.now w.good h2 rp⟩
theorem pd_const {e : Expr} {v : V} {d : D} (h : PE X e (tC v)) (hd : ∀ (K : PySem.W.Frag) F m H, Rp K F m H d v) : PD X c e (dC d) :=
  PD.of h fun σ H F m M env P w r q => Fin.now w.good q (hd _ _ _ _)
theorem pd_int {i : Int} {j pos} : PD X c (.Constant (.int i) j pos) (dC (.int i)) := pd_const pe_int fun _ _ _ _ => by simp [Rp]
theorem pd_bl {b : Bool} {j pos} : PD X c (.Constant (.bool b) j pos) (dC (.bl b)) := pd_const pe_bl fun _ _ _ _ => by simp [Rp]
theorem pd_non {j pos} : PD X c (.Constant .none j pos) (dC .non) := pd_const pe_non fun _ _ _ _ => by simp [Rp]
theorem pd_str {x : Str} {j pos} (hx : x.length ≤ sizeLine) : PD X c (.Constant (.str x) j pos) (dC (.str x)) := pd_const pe_str fun _ _ _ _ => by simp [Rp, hx]
/-- a global whose value does not hang on the heap -/
theorem pd_glob {x : Str} {pos : Pos} {v : V} {u : Value} {d : D} (hg : Gl X x) (hm : X.mg x = some u) (r : RelV v u) (hd : ∀ F m H, Rp X.K F m H d v) (hdb : (x == ("__debug__" : Str)) = false) : PD X c (.Name x pos) (dC d) :=
  ⟨fun pins s σ H F m M env P I w re q => ld_glob I hg hm ⟨v, H, I, r, Fin.now w.good q (hd _ _ _)⟩ hdb⟩

/-! ### argument lists -/
def dNil : TDA := fun _ M P => P [] M
def dCons (ta : TD) (tr : TDA) : TDA := fun env M P => ta env M fun d M1 => tr env M1 fun ds M2 => P (d :: ds) M2
theorem pda_nil : PDA X c [] dNil := ⟨fun pos pins s σ H F m M env P I w r h => Calls.spliced_nil ⟨[], H, I, .nil, [], M, F, m, h, Ext.refl _ _ _, w.good, Rps.nil⟩⟩
theorem pda_cons {e : Expr} {es : List Expr} {te : TD} {t : TDA} (ha : PD X c e te) (hr : PDA X c es t) (hs : starEach (e :: es) X.env = (false, eval e X.env) :: starEach es X.env) : PDA X c (e :: es) (dCons te t) := by
  refine ⟨fun pos pins s σ H F m M env P I w r h => ?_⟩
  rw [hs]
  show wpAny _ _ (spliced ((false, eval e X.env) :: backTo pos (starEach es X.env))) _ _ s
  refine Calls.spliced_cons (thn (ha.run pins s σ H F m M env _ I w r h) fun u s1 ⟨x, H1, I1, r1, d, M1, F1, m1, q1, e1, g1, rp1⟩ => ?_)
  refine thn (hr.run pos pins s1 σ H1 F1 m1 M1 env _ I1 (w.step e1 g1) (r.ext w.good e1) q1) fun us s2 ⟨xs, H2, I2, r2, ds, M2, F2, m2, q2, e2, g2, rp2⟩ => ?_
  exact ⟨x :: xs, H2, I2, .cons r1 r2, d :: ds, M2, F2, m2, q2, e1.trans e2, g2, Rps.cons (Rp.ext g1 e2 d x rp1) rp2⟩

/-! ### operators, built-in calls, by data -/
/-- what a rule by data says: it runs -/
def OpD (X : Cx) (f : List Value → Sem Value) (dl : St3 → List D → KD → Prop) : Prop :=
  ∀ (pins : List (Addr × Obj)) (s : Shared) (σ : L2.St) (H : Hp) (F : Addr → Prop) (m : List Addr) (M : St3) (us : List Value) (vs : List V) (ds : List D) (P : KD),
    Inv X pins σ H s → Vals vs us → Good X.K F m H M → Rps X.K F m H ds vs → dl M ds P →
    wpAny (model X.prog X.w) X.A (f us) (EP X pins σ (Fin X.K F m H P)) X.xe s
/-- r of the hand layer answers what dl asks -/
def Sim (K : PySem.W.Frag) (r : List V → Hp → VK → Prop) (dl : St3 → List D → KD → Prop) : Prop :=
  ∀ (F : Addr → Prop) (m : List Addr) (M : St3) (H : Hp) (vs : List V) (ds : List D) (P : KD), Good K F m H M → Rps K F m H ds vs → dl M ds P → r vs H (Fin K F m H P)
theorem OpD.call {f : Value} {r : List V → Hp → VK → Prop} {dl : St3 → List D → KD → Prop} (hc : CallR X f r) (h : Sim X.K r dl) : OpD X (fun us => call f us) dl :=
  fun pins s σ H F m M us vs ds P I rv g rp q => hc pins s σ H vs us _ I rv (h F m M H vs ds P g rp q)
def bin2 (f : Value → Value → Sem Value) : List Value → Sem Value := fun us => match us with
  | [a, b] => f a b
  | _ => pure .none
def vbin (r : R2) : List V → Hp → VK → Prop := fun vs H Q => ∃ x y, vs = [x, y] ∧ r x y H Q
theorem OpD.bin {f : Value → Value → Sem Value} {r : R2} {dl : St3 → List D → KD → Prop} (ho : OpR X f r) (h : Sim X.K (vbin r) dl) : OpD X (bin2 f) dl :=
  fun pins s σ H F m M us vs ds P I rv g rp q => by
    obtain ⟨x, y, rfl, hr⟩ := h F m M H vs ds P g rp q
    obtain ⟨u, v, rfl, r1, r2⟩ := vals2 rv
    exact ho pins s σ H x y u v _ I r1 r2 hr
theorem OpD.or {f : List Value → Sem Value} {d1 d2 : St3 → List D → KD → Prop} (h1 : OpD X f d1) (h2 : OpD X f d2) : OpD X f fun M ds P => d1 M ds P ∨ d2 M ds P :=
  fun pins s σ H F m M us vs ds P I rv g rp q => q.elim (h1 pins s σ H F m M us vs ds P I rv g rp) (h2 pins s σ H F m M us vs ds P I rv g rp)
theorem OpD.imp {f : List Value → Sem Value} {d1 d2 : St3 → List D → KD → Prop} (h1 : OpD X f d1) (h : ∀ M ds P, d2 M ds P → d1 M ds P) : OpD X f d2 :=
  fun pins s σ H F m M us vs ds P I rv g rp q => h1 pins s σ H F m M us vs ds P I rv g rp (h M ds P q)

def dOp2 (dl : St3 → List D → KD → Prop) (ta tb : TD) : TD := fun env M P => ta env M fun x M1 => tb env M1 fun y M2 => dl M2 [x, y] P
def dOpN (dl : St3 → List D → KD → Prop) (t : TDA) : TD := fun env M P => t env M fun ds M1 => dl M1 ds P
/-- two expressions in a row, then a rule by data -/
theorem run2 {a b : Expr} {ta tb : TD} (ha : PD X c a ta) (hb : PD X c b tb) {pins : List (Addr × Obj)} {s : Shared} {σ : L2.St} {H : Hp} {F : Addr → Prop} {m : List Addr} {M : St3} {env : Env3} {R : D → D → St3 → Prop}
    (I : Inv X pins σ H s) (w : World X.K c F m M H) (r : Re X.K F m H env σ) (h : ta env M fun x M1 => tb env M1 fun y M2 => R x y M2) {α : Type} {Q : α → Shared → Prop} {f : Value → Value → Sem α}
    (hf : ∀ (u v : Value) (s2 : Shared) (x y : V) (H2 : Hp) (F2 : Addr → Prop) (m2 : List Addr) (M2 : St3) (d e : D), Inv X pins σ H2 s2 → RelV x u → RelV y v → R d e M2 → Ext F m H F2 m2 H2 → Good X.K F2 m2 H2 M2 → Rp X.K F2 m2 H2 d x → Rp X.K F2 m2 H2 e y →
      wpAny (model X.prog X.w) X.A (f u v) Q X.xe s2) :
    wpAny (model X.prog X.w) X.A (eval a X.env) (fun u s1 => wpAny (model X.prog X.w) X.A (eval b X.env) (fun v s2 => wpAny (model X.prog X.w) X.A (f u v) Q X.xe s2) X.xe s1) X.xe s := by
  refine thn (ha.run pins s σ H F m M env _ I w r h) fun u s1 ⟨x, H1, I1, r1, d, M1, F1, m1, q1, e1, g1, rp1⟩ => ?_
  refine thn (hb.run pins s1 σ H1 F1 m1 M1 env _ I1 (w.step e1 g1) (r.ext w.good e1) q1) fun v s2 ⟨y, H2, I2, r2, e, M2, F2, m2, q2, e2, g2, rp2⟩ => ?_
  exact hf u v s2 x y H2 F2 m2 M2 d e I2 r1 r2 q2 (e1.trans e2) g2 (Rp.ext g1 e2 d x rp1) rp2
theorem fin_step {pins : List (Addr × Obj)} {σ : L2.St} {K : PySem.W.Frag} {F F2 : Addr → Prop} {m m2 : List Addr} {H H2 : Hp} {P : KD} (e : Ext F m H F2 m2 H2) : ∀ v H', Fin K F2 m2 H2 P v H' → Fin K F m H P v H' :=
  fun v H' ⟨d, M', F', m', p, e', g, r⟩ => ⟨d, M', F', m', p, e.trans e', g, r⟩
theorem ep_step {pins : List (Addr × Obj)} {σ : L2.St} {Q Q' : VK} {u : Value} {s : Shared} (h : EP X pins σ Q u s) (q : ∀ v H', Q v H' → Q' v H') : EP X pins σ Q' u s := by
  obtain ⟨v, H', I, r, z⟩ := h
  exact ⟨v, H', I, r, q v H' z⟩
theorem pd_bin {op : Operator} {a b : Expr} {pos : Pos} {ta tb : TD} {dl : St3 → List D → KD → Prop} (ho : OpD X (bin2 (binaryOp op)) dl) (ha : PD X c a ta) (hb : PD X c b tb) : PD X c (.BinOp a op b pos) (dOp2 dl ta tb) := by
  refine ⟨fun pins s σ H F m M env P I w r h => ?_⟩
  refine wpAny_BinOp (run2 ha hb I w r h fun u v s2 x y H2 F2 m2 M2 d e I2 r1 r2 q2 e2 g2 p1 p2 => ?_)
  exact thn (ho pins s2 σ H2 F2 m2 M2 [u, v] [x, y] [d, e] P I2 (.cons r1 (.cons r2 .nil)) g2 (Rps.cons p1 (Rps.one p2)) q2) fun _ _ z => ep_step z (fin_step (pins := pins) (σ := σ) e2)
end
end L3
namespace L3
open PySem PySem.Spec PyProof.Rows L2

/-! ### looking at a value: a shared object by what it holds -/
def vw (M : St3) : D → D
  | .obj n => match M[n]? with
    | some (.lst ds) => .lst ds
    | some (.dic ks ds) => .dic ks ds
    | some (.lck ks ds) => .dic ks ds
    | none => .obj n
  | d => d
def RpW (K : PySem.W.Frag) (F : Addr → Prop) (m : List Addr) (H : Hp) (d : D) (v : V) : Prop := match d with
  | .lst ds => ∃ a xs, v = .ref a ∧ SqL K H a xs ∧ Rps K F m H ds xs
  | .dic ks ds => ∃ a kvs, v = .ref a ∧ Rd H a (.dK kvs) ∧ kvs.map (·.1) = ks ∧ Rps K F m H ds (kvs.map (·.2))
  | d => Rp K F m H d v
section
variable {K : PySem.W.Frag} {F F' : Addr → Prop} {m m' : List Addr} {H H' : Hp} {M M' : St3}
theorem Good.look (g : Good K F m H M) : ∀ {d : D} {v : V}, Rp K F m H d v → RpW K F m H (vw M d) v
  | .non, _, h => h
  | .bl _, _, h => h
  | .int _, _, h => h
  | .str _, _, h => h
  | .tup _, _, h => h
  | .raw _, _, h => h
  | .lst ds, v, h => by
    simp only [Rp] at h
    obtain ⟨a, xs, e, h1, h2⟩ := h
    exact ⟨a, xs, e, h1.sq, h2⟩
  | .dic ks ds, v, h => by
    simp only [Rp] at h
    obtain ⟨a, kvs, e, ⟨_, h1⟩, hk, h2⟩ := h
    exact ⟨a, kvs, e, h1, hk, h2⟩
  | .obj n, v, h => by
    have h0 := h
    simp only [Rp] at h
    obtain ⟨a, h1, rfl⟩ := h
    have hl : n < M.length := by rw [← g.len]; exact (List.getElem?_eq_some_iff.mp h1).1
    have e := List.getElem?_eq_getElem hl
    obtain ⟨_, h3⟩ := g.at_ n a _ h1 e
    show RpW K F m H (match M[n]? with | some (.lst ds) => D.lst ds | some (.dic ks ds) => D.dic ks ds | some (.lck ks ds) => D.dic ks ds | none => D.obj n) _
    rw [e]
    cases q : M[n] with
    | lst ds => rw [q] at h3; obtain ⟨xs, h4, h5⟩ := h3; exact ⟨a, xs, rfl, SqL.of h4, h5⟩
    | dic ks ds => rw [q] at h3; obtain ⟨kvs, h4, hk, h5⟩ := h3; exact ⟨a, kvs, rfl, .inl h4, hk, h5⟩
    | lck ks ds => rw [q] at h3; obtain ⟨kvs, h4, hk, h5⟩ := h3; exact ⟨a, kvs, rfl, h4, hk, h5⟩
end
/-- a value's truth -/
def truD : D → Option Bool
  | .non => some false
  | .bl b => some b
  | .int i => some (i != 0)
  | .str x => some ((x.length : Int) != 0)
  | .tup ds => some (!ds.isEmpty)
  | .lst ds => some (!ds.isEmpty)
  | _ => none
theorem Rps.isEmpty {K : PySem.W.Frag} {F : Addr → Prop} {m : List Addr} {H : Hp} {ds : List D} {xs : List V} (h : Rps K F m H ds xs) : ds.isEmpty = xs.isEmpty := by
  have := h.length
  cases ds <;> cases xs <;> simp_all
theorem truV_of {K : PySem.W.Frag} {F : Addr → Prop} {m : List Addr} {H : Hp} {d : D} {v : V} {b : Bool} (r : RpW K F m H d v) (h : truD d = some b) : TruV K v H b := by
  cases d with
  | non => simp only [RpW, Rp] at r; subst r; simpa [truD, TruV] using h.symm
  | bl c => simp only [RpW, Rp] at r; subst r; simpa [truD, TruV] using h.symm
  | int i => simp only [RpW, Rp] at r; subst r; simpa [truD, TruV] using h.symm
  | str x =>
    simp only [RpW, Rp] at r
    obtain ⟨rfl, hx⟩ := r
    have e : b = ((x.length : Int) != 0) := by simpa [truD] using h.symm
    exact ⟨hx, e⟩
  | tup ds =>
    simp only [RpW, Rp] at r
    obtain ⟨a, xs, rfl, h1, h2⟩ := r
    refine .inr (.inl ⟨xs, h1.sq, ?_⟩)
    rw [← h2.isEmpty]; simpa [truD] using h.symm
  | lst ds =>
    obtain ⟨a, xs, rfl, h1, h2⟩ := r
    refine .inl ⟨xs, h1, ?_⟩
    rw [← h2.isEmpty]; simpa [truD] using h.symm
  | dic ks ds => simp [truD] at h
  | obj n => simp [truD] at h
  | raw w => simp [truD] at h

/-! ### tests -/
def dTru (t : TD) : TDT := fun env M P => t env M fun d M1 => ∃ b, truD (vw M1 d) = some b ∧ P b M1
def dNotT (t : TDT) : TDT := fun env M P => t env M fun b M1 => P (!b) M1
def dAndT (t u : TDT) : TDT := fun env M P => t env M fun b M1 => if b = true then u env M1 P else P false M1
def dOrT (t u : TDT) : TDT := fun env M P => t env M fun b M1 => if b = true then P true M1 else u env M1 P
def dAnd (t u : TD) : TD := fun env M P => t env M fun d M1 => ∃ b, truD (vw M1 d) = some b ∧ if b = true then u env M1 P else P d M1
def dOr (t u : TD) : TD := fun env M P => t env M fun d M1 => ∃ b, truD (vw M1 d) = some b ∧ if b = true then P d M1 else u env M1 P
def dNot (t : TD) : TD := fun env M P => t env M fun d M1 => ∃ b, truD (vw M1 d) = some b ∧ P (.bl (!b)) M1
def dIf (c : TDT) (t u : TD) : TD := fun env M P => c env M fun b M1 => if b = true then t env M1 P else u env M1 P
section
variable {X : Cx} {c : Ctx} {a b e : Expr} {ta tb : TD} {rest : List Expr} {pos : Pos}
theorem pdt_tru (h : PD X c e ta) (he : ∀ whole, isTrue e X.env whole = (do let v ← whole; standAt e.pos; holding [v] (truthy v))) : PDT X c e (dTru ta) :=
  PDT.of (pt_truth h.pe he) fun σ H F m M env P w r q => ⟨F, m, M, env, _, w, r, q, fun v H' ⟨d, M', F', m', ⟨k, e1, p⟩, e2, g, rp⟩ => ⟨k, truV_of (g.look rp) e1, M', F', m', p, e2, g⟩⟩
/-- a comparison as a test -/
theorem pdt_cmp {op : CmpOp} {dl : St3 → List D → KD → Prop} (ho : OpD X (bin2 (compareOp op)) dl) (ha : PD X c a ta) (hb : PD X c b tb) (hm : behindInMarks op b = false) : PDT X c (.Compare a [op] [b] pos) (dTru (dOp2 dl ta tb)) := by
  refine ⟨fun pins s σ H F m M env P I w r h => ?_⟩
  refine wpAny_isTrue_Compare1 (run2 ha hb I w r h fun u v s2 x y H2 F2 m2 M2 d e I2 r1 r2 q2 e2 g2 p1 p2 => ?_) hm
  refine thn (ho pins s2 σ H2 F2 m2 M2 [u, v] [x, y] [d, e] _ I2 (.cons r1 (.cons r2 .nil)) g2 (Rps.cons p1 (Rps.one p2)) q2) fun z s3 ⟨v3, H3, I3, r3, d3, M3, F3, m3, ⟨k, hk, p⟩, e3, g3, rp3⟩ => ?_
  exact thn (tru_ok pins s3 σ H3 v3 z (fun b H' => b = k ∧ H' = H3) I3 r3 ⟨k, truV_of (g3.look rp3) hk, rfl, rfl⟩) fun b s4 ⟨H4, I4, eb, eh⟩ => by
    subst eb eh
    exact ⟨H4, I4, M3, F3, m3, p, e2.trans e3, g3⟩
theorem pd_cmp {op : CmpOp} {dl : St3 → List D → KD → Prop} (ho : OpD X (bin2 (compareOp op)) dl) (ha : PD X c a ta) (hb : PD X c b tb) (hm : behindInMarks op b = false) : PD X c (.Compare a [op] [b] pos) (dOp2 dl ta tb) := by
  refine ⟨fun pins s σ H F m M env P I w r h => ?_⟩
  refine wpAny_Compare1 (run2 ha hb I w r h fun u v s2 x y H2 F2 m2 M2 d e I2 r1 r2 q2 e2 g2 p1 p2 => ?_) hm
  exact thn (ho pins s2 σ H2 F2 m2 M2 [u, v] [x, y] [d, e] P I2 (.cons r1 (.cons r2 .nil)) g2 (Rps.cons p1 (Rps.one p2)) q2) fun _ _ z => ep_step z (fin_step (pins := pins) (σ := σ) e2)
theorem pdt_not {t : TDT} (h : PDT X c e t) : PDT X c (.UnaryOp .Not e pos) (dNotT t) :=
  PDT.of (pt_not h.pt) fun σ H F m M env P w r q => ⟨F, m, M, env, _, w, r, q, fun b H' M' F' m' p e g => ⟨M', F', m', p, e, g⟩⟩
/-- a test whatever its 'whole' is -/
structure PDW (X : Cx) (c : Ctx) (e : Expr) (t : TDT) : Prop where
  run : ∀ (whole : Sem Value) (pins : List (Addr × Obj)) (s : Shared) (σ : L2.St) (H : Hp) (F : Addr → Prop) (m : List Addr) (M : St3) (env : Env3) (P : Bool → St3 → Prop),
    Inv X pins σ H s → World X.K c F m M H → Re X.K F m H env σ → t env M P →
    wpAny (model X.prog X.w) X.A (isTrue e X.env whole) (TP X pins σ fun b H' => ∃ M' F' m', P b M' ∧ Ext F m H F' m' H' ∧ Good X.K F' m' H' M') X.xe s
theorem PDW.pdt {t : TDT} (h : PDW X c e t) : PDT X c e t := ⟨h.run _⟩
theorem pdw_one {op : BoolOp} {t : TDT} (h : PDT X c a t) : PDW X c (.BoolOp op [a] pos) t := by
  refine ⟨fun wh pins s σ H F m M env P I w r q => ?_⟩
  cases op with
  | And =>
    refine isTrue_and (thn (h.run pins s σ H F m M env P I w r q) fun b s1 z => ?_)
    cases b with
    | true => exact isTrue_and_nil z
    | false => exact z
  | Or =>
    refine isTrue_or (thn (h.run pins s σ H F m M env P I w r q) fun b s1 z => ?_)
    cases b with
    | false => exact isTrue_or_nil z
    | true => exact z
theorem pdw_and {t u : TDT} (ha : PDT X c a t) (hb : PDW X c (.BoolOp .And (b :: rest) pos) u) : PDW X c (.BoolOp .And (a :: b :: rest) pos) (dAndT t u) := by
  refine ⟨fun wh pins s σ H F m M env P I w r q => ?_⟩
  refine isTrue_and (thn (ha.run pins s σ H F m M env _ I w r q) fun k s1 ⟨H1, I1, M1, F1, m1, q1, e1, g1⟩ => ?_)
  cases k with
  | true =>
    rw [if_pos rfl] at q1
    exact thn (hb.run wh pins s1 σ H1 F1 m1 M1 env P I1 (w.step e1 g1) (r.ext w.good e1) q1) fun k2 s2 ⟨H2, I2, M2, F2, m2, q2, e2, g2⟩ => ⟨H2, I2, M2, F2, m2, q2, e1.trans e2, g2⟩
  | false =>
    rw [if_neg Bool.false_ne_true] at q1
    exact ⟨H1, I1, M1, F1, m1, q1, e1, g1⟩
theorem pdw_or {t u : TDT} (ha : PDT X c a t) (hb : PDW X c (.BoolOp .Or (b :: rest) pos) u) : PDW X c (.BoolOp .Or (a :: b :: rest) pos) (dOrT t u) := by
  refine ⟨fun wh pins s σ H F m M env P I w r q => ?_⟩
  refine isTrue_or (thn (ha.run pins s σ H F m M env _ I w r q) fun k s1 ⟨H1, I1, M1, F1, m1, q1, e1, g1⟩ => ?_)
  cases k with
  | false =>
    rw [if_neg Bool.false_ne_true] at q1
    exact thn (hb.run wh pins s1 σ H1 F1 m1 M1 env P I1 (w.step e1 g1) (r.ext w.good e1) q1) fun k2 s2 ⟨H2, I2, M2, F2, m2, q2, e2, g2⟩ => ⟨H2, I2, M2, F2, m2, q2, e1.trans e2, g2⟩
  | true =>
    rw [if_pos rfl] at q1
    exact ⟨H1, I1, M1, F1, m1, q1, e1, g1⟩
theorem pd_one {op : BoolOp} (h : PD X c a ta) : PD X c (.BoolOp op [a] pos) ta := ⟨fun pins s σ H F m M env P I w r q => BoolOp_one (h.run pins s σ H F m M env P I w r q)⟩
theorem fin_le {K : PySem.W.Frag} {F F1 : Addr → Prop} {m m1 : List Addr} {M M1 : St3} {H H1 : Hp} {P : KD} {env : Env3} {σ : L2.St} {t : TD} (w : World K c F m M H) (r : Re K F m H env σ) (e : Ext F m H F1 m1 H1) (g : Good K F1 m1 H1 M1) (q : t env M1 P) : LE K c t σ H1 (Fin K F m H P) :=
  ⟨F1, m1, M1, env, P, w.step e g, r.ext w.good e, q, fin_step (pins := []) (σ := σ) e⟩
theorem pd_and (ha : PD X c a ta) (hb : PD X c (.BoolOp .And (b :: rest) pos) tb) : PD X c (.BoolOp .And (a :: b :: rest) pos) (dAnd ta tb) :=
  PD.of (pe_andT ha.pe hb.pe) fun σ H F m M env P w r q => ⟨F, m, M, env, _, w, r, q, fun v H' ⟨d, M', F', m', ⟨k, hk, q1⟩, e, g, rp⟩ => ⟨k, truV_of (g.look rp) hk, by
    cases k with
    | true => rw [if_pos rfl] at q1 ⊢; exact fin_le w r e g q1
    | false => rw [if_neg Bool.false_ne_true] at q1 ⊢; exact ⟨d, M', F', m', q1, e, g, rp⟩⟩⟩
theorem pd_or (ha : PD X c a ta) (hb : PD X c (.BoolOp .Or (b :: rest) pos) tb) : PD X c (.BoolOp .Or (a :: b :: rest) pos) (dOr ta tb) :=
  PD.of (pe_orT ha.pe hb.pe) fun σ H F m M env P w r q => ⟨F, m, M, env, _, w, r, q, fun v H' ⟨d, M', F', m', ⟨k, hk, q1⟩, e, g, rp⟩ => ⟨k, truV_of (g.look rp) hk, by
    cases k with
    | false => rw [if_neg Bool.false_ne_true] at q1 ⊢; exact fin_le w r e g q1
    | true => rw [if_pos rfl] at q1 ⊢; exact ⟨d, M', F', m', q1, e, g, rp⟩⟩⟩
theorem pd_not (ha : PD X c a ta) : PD X c (.UnaryOp .Not a pos) (dNot ta) :=
  PD.of (pe_notT ha.pe) fun σ H F m M env P w r q => ⟨F, m, M, env, _, w, r, q, fun v H' ⟨d, M', F', m', ⟨k, hk, q1⟩, e, g, rp⟩ => ⟨k, truV_of (g.look rp) hk, .bl (!k), M', F', m', q1, e, g, by simp [Rp]⟩⟩
theorem pd_ifExp {t : Expr} {tc : TDT} (hc : PDT X c t tc) (ha : PD X c a ta) (hb : PD X c b tb) : PD X c (.IfExp t a b pos) (dIf tc ta tb) :=
  PD.of (pe_ifExp hc.pt ha.pe hb.pe) fun σ H F m M env P w r q => ⟨F, m, M, env, _, w, r, q, fun k H' M' F' m' q1 e g => by
    cases k with
    | true => rw [if_pos rfl] at q1 ⊢; exact fin_le w r e g q1
    | false => rw [if_neg Bool.false_ne_true] at q1 ⊢; exact fin_le w r e g q1⟩
theorem pd_un {op : UnaryOp} {dl : St3 → List D → KD → Prop} (ho : OpD X (fun us => match us with | [a] => unaryOp op a | _ => pure .none) dl) (ha : PD X c a ta) : PD X c (.UnaryOp op a pos) (fun env M P => ta env M fun d M1 => dl M1 [d] P) := by
  refine ⟨fun pins s σ H F m M env P I w r h => ?_⟩
  refine UnaryOp_ (thn (ha.run pins s σ H F m M env _ I w r h) fun v s1 ⟨x, H1, I1, r1, d, M1, F1, m1, q1, e1, g1, rp1⟩ => ?_)
  exact thn (ho pins s1 σ H1 F1 m1 M1 [v] [x] [d] P I1 (.cons r1 .nil) g1 (Rps.one rp1) q1) fun _ _ z => ep_step z (fin_step (pins := pins) (σ := σ) e1)
end

/-! ### tuples, lists, dicts written -/
def dTup (t : TDA) : TD := fun env M P => t env M fun ds M1 => ds.length ≤ sizeLine ∧ P (.tup ds) M1
def dLst (t : TDA) : TD := fun env M P => t env M fun ds M1 => ds.length ≤ sizeLine ∧ P (.lst ds) M1
/-- a list that will be changed -/
def dLstO (t : TDA) : TD := fun env M P => t env M fun ds M1 => ds.length ≤ sizeLine ∧ P (.obj M1.length) (M1 ++ [.lst ds])
section
variable {K : PySem.W.Frag} {F F' : Addr → Prop} {m m' : List Addr} {H H' : Hp} {M M' : St3} {P : KD}
/-- a new list, frozen; shared -/
theorem fin_lst (g : Good K F m H M) {p : Addr} {xs : List V} {ds : List D} (hp : H p = none) (r : Rps K F m H ds xs) (q : P (.lst ds) M) : Fin K F m H P (.ref p) (upd H p (.lst xs)) := by
  have e : Ext F m H (fun a => F a ∨ a = p) m (upd H p (.lst xs)) := Ext.frozen hp
  refine ⟨.lst ds, M, _, m, q, e, g.frozen hp (.inl ⟨xs, rfl⟩), ?_⟩
  simp only [Rp]
  exact ⟨p, xs, rfl, .inl ⟨.inr rfl, .inl upd_same⟩, Rps.ext g e _ _ r⟩
theorem fin_lstO (g : Good K F m H M) {p : Addr} {xs : List V} {ds : List D} (hp : H p = none) (r : Rps K F m H ds xs) (q : P (.obj M.length) (M ++ [.lst ds])) : Fin K F m H P (.ref p) (upd H p (.lst xs)) := by
  have e : Ext F m H F (m ++ [p]) (upd H p (.lst xs)) := Ext.shared hp
  refine ⟨.obj M.length, _, F, m ++ [p], q, e, g.shared hp ⟨xs, upd_same, Rps.ext g e _ _ r⟩, ?_⟩
  simp only [Rp]
  exact ⟨p, by rw [← g.len]; simp, rfl⟩
theorem fin_tup (g : Good K F m H M) {p : Addr} {xs : List V} {ds : List D} {its : List Value} (hp : H p = none) (r : Rps K F m H ds xs) (q : P (.tup ds) M) : Fin K F m H P (.ref p) (upd H p (.frz (tupO its) (.tup xs))) := by
  have e : Ext F m H F m (upd H p (.frz (tupO its) (.tup xs))) := Ext.laid hp
  refine ⟨.tup ds, M, _, m, q, e, g.laid hp, ?_⟩
  simp only [Rp]
  exact ⟨p, xs, rfl, .inl ⟨_, upd_same, rfl⟩, Rps.ext g e _ _ r⟩
theorem fin_dic (g : Good K F m H M) {p : Addr} {kvs : List (Key × V)} {ks : List Key} {ds : List D} (hp : H p = none) (hk : kvs.map (·.1) = ks) (r : Rps K F m H ds (kvs.map (·.2))) (q : P (.dic ks ds) M) : Fin K F m H P (.ref p) (upd H p (.dK kvs)) := by
  have e : Ext F m H (fun a => F a ∨ a = p) m (upd H p (.dK kvs)) := Ext.frozen hp
  refine ⟨.dic ks ds, M, _, m, q, e, g.frozen hp (.inr ⟨kvs, rfl⟩), ?_⟩
  simp only [Rp]
  exact ⟨p, kvs, rfl, ⟨.inr rfl, .inl upd_same⟩, hk, Rps.ext g e _ _ r⟩
theorem fin_dicO (g : Good K F m H M) {p : Addr} {kvs : List (Key × V)} {ks : List Key} {ds : List D} (hp : H p = none) (hk : kvs.map (·.1) = ks) (r : Rps K F m H ds (kvs.map (·.2))) (q : P (.obj M.length) (M ++ [.dic ks ds])) : Fin K F m H P (.ref p) (upd H p (.dK kvs)) := by
  have e : Ext F m H F (m ++ [p]) (upd H p (.dK kvs)) := Ext.shared hp
  refine ⟨.obj M.length, _, F, m ++ [p], q, e, g.shared hp ⟨kvs, upd_same, hk, Rps.ext g e _ _ r⟩, ?_⟩
  simp only [Rp]
  exact ⟨p, by rw [← g.len]; simp, rfl⟩
end
section
variable {X : Cx} {c : Ctx} {es : List Expr} {pos : Pos} {t : TDA}
theorem laidT {pins : List (Addr × Obj)} {σ : L2.St} {H : Hp} {s : Shared} (I : Inv X pins σ H s) {xs : List V} {its : List Value} (hv : Vals xs its) (hz : xs.length ≤ sizeLine) (t' : Nat) :
    Inv X pins σ (upd H s.heap.objs.size (.frz (tupO its) (.tup xs))) { s with heap := s.heap.push (tupO its), toks := t' } :=
  I.laid (fun _ _ q => Heap.get?_push_of_some _ q) (Nat.le_refl _) ⟨Heap.get?_push_size _ rfl, hz, its, hv, ⟨_, Heap.get?_push_size _ rfl, rfl, _, rfl⟩⟩
theorem ep_tup {pins : List (Addr × Obj)} {σ : L2.St} {F : Addr → Prop} {m : List Addr} {M : St3} {H : Hp} {P : KD} {s : Shared} (I : Inv X pins σ H s) (g : Good X.K F m H M) {xs : List V} {its : List Value} {ds : List D} (hv : Vals xs its) (hz : xs.length ≤ sizeLine)
    (r : Rps X.K F m H ds xs) (q : P (.tup ds) M) {t' : Nat} : EP X pins σ (Fin X.K F m H P) (.ref s.heap.objs.size) { s with heap := s.heap.push (tupO its), toks := t' } :=
  ⟨.ref _, _, laidT I hv hz t', rfl, fin_tup g (I.hok.fresh (Nat.le_refl _)) r q⟩
theorem pd_tup {k} (h : PDA X c es t) : PD X c (.Tuple es k pos) (dTup t) := by
  refine ⟨fun pins s σ H F m M env P I w r hq => ?_⟩
  refine wpAny_Tuple_spliced (thn (h.run pos pins s σ H F m M env _ I w r hq) fun us s1 ⟨vs, H1, I1, rv, ds, M1, F1, m1, ⟨hz, q⟩, e, g, rp⟩ => ⟨by rw [← rv.length, ← rp.length]; exact hz, ?_⟩)
  exact ep_step (ep_tup (t' := s1.toks) I1 g rv (by rw [← rp.length]; exact hz) rp q) (fin_step (pins := pins) (σ := σ) e)
theorem pd_lst (h : PDA X c es t) : PD X c (.List es pos) (dLst t) :=
  PD.of (pe_lst h.pa) fun σ H F m M env P w r q => ⟨F, m, M, env, _, w, r, q, fun vs H' ds M' F' m' ⟨hz, q1⟩ e g rp => ⟨by rw [← rp.length]; exact hz, fun p hp => fin_step (pins := []) (σ := σ) e _ _ (fin_lst g hp rp q1)⟩⟩
theorem pd_lstO (h : PDA X c es t) : PD X c (.List es pos) (dLstO t) :=
  PD.of (pe_lst h.pa) fun σ H F m M env P w r q => ⟨F, m, M, env, _, w, r, q, fun vs H' ds M' F' m' ⟨hz, q1⟩ e g rp => ⟨by rw [← rp.length]; exact hz, fun p hp => fin_step (pins := []) (σ := σ) e _ _ (fin_lstO g hp rp q1)⟩⟩
end

/-! ### statements -/
structure End3 where
  nx : Env3 → St3 → Prop
  rt : KD
  bk : Env3 → St3 → Prop := fun _ _ => False
  ct : Env3 → St3 → Prop := fun _ _ => False
abbrev TDS := End3 → Env3 → St3 → Prop
def fEnv (K : PySem.W.Frag) (c : Ctx) (N : Env3 → St3 → Prop) : L2.St → Hp → Prop := fun σ H => ∃ F m M env, World K c F m M H ∧ Re K F m H env σ ∧ N env M
def fRet (K : PySem.W.Frag) (c : Ctx) (R : KD) : VK := fun v H => ∃ d F m M, World K c F m M H ∧ Rp K F m H d v ∧ R d M
def ends (K : PySem.W.Frag) (c : Ctx) (D : End3) : Ends := ⟨fEnv K c D.nx, fRet K c D.rt, fEnv K c D.bk, fEnv K c D.ct⟩
structure PDS (X : Cx) (c : Ctx) (st : Stmt) (t : TDS) : Prop where
  run : ∀ (pins : List (Addr × Obj)) (s : Shared) (σ : L2.St) (H : Hp) (F : Addr → Prop) (m : List Addr) (M : St3) (env : Env3) (D : End3),
    Inv X pins σ H s → World X.K c F m M H → Re X.K F m H env σ → t D env M →
    wpAny (model X.prog X.w) X.A (exec st X.env) (SP X pins (ends X.K c D)) X.xe s
structure PDSs (X : Cx) (c : Ctx) (st : List Stmt) (t : TDS) : Prop where
  run : ∀ (pins : List (Addr × Obj)) (s : Shared) (σ : L2.St) (H : Hp) (F : Addr → Prop) (m : List Addr) (M : St3) (env : Env3) (D : End3),
    Inv X pins σ H s → World X.K c F m M H → Re X.K F m H env σ → t D env M →
    wpAny (model X.prog X.w) X.A (execs st X.env) (SP X pins (ends X.K c D)) X.xe s
def LS (K : PySem.W.Frag) (c : Ctx) (t : TDS) : TS := fun D σ H => ∃ (F : Addr → Prop) (m : List Addr) (M : St3) (env : Env3) (D3 : End3), World K c F m M H ∧ Re K F m H env σ ∧ t D3 env M ∧
  (∀ σ' H', fEnv K c D3.nx σ' H' → D.nx σ' H') ∧ (∀ v H', fRet K c D3.rt v H' → D.rt v H') ∧ (∀ σ' H', fEnv K c D3.bk σ' H' → D.bk σ' H') ∧ (∀ σ' H', fEnv K c D3.ct σ' H' → D.ct σ' H')
theorem SP.imp {X : Cx} {pins : List (Addr × Obj)} {D D' : Ends} {f : Flow} {s : Shared} (h : SP X pins D f s) (h1 : ∀ σ' H', D.nx σ' H' → D'.nx σ' H') (h2 : ∀ v H', D.rt v H' → D'.rt v H') (h3 : ∀ σ' H', D.bk σ' H' → D'.bk σ' H') (h4 : ∀ σ' H', D.ct σ' H' → D'.ct σ' H') : SP X pins D' f s := by
  cases f with
  | next => obtain ⟨σ', H', I, q⟩ := h; exact ⟨σ', H', I, h1 _ _ q⟩
  | brk => obtain ⟨σ', H', I, q⟩ := h; exact ⟨σ', H', I, h3 _ _ q⟩
  | cont => obtain ⟨σ', H', I, q⟩ := h; exact ⟨σ', H', I, h4 _ _ q⟩
  | ret u => obtain ⟨v, σ', H', I, r, q⟩ := h; exact ⟨v, σ', H', I, r, h2 _ _ q⟩
section
variable {X : Cx} {c : Ctx} {st : Stmt} {sts rest : List Stmt} {t u : TDS} {e : Expr} {te : TD} {pos : Pos}
theorem PDS.ps (h : PDS X c st t) : PS X st (LS X.K c t) := ⟨fun pins s σ H D I ⟨F, m, M, env, D3, w, r, q, h1, h2, h3, h4⟩ =>
  thn (h.run pins s σ H F m M env D3 I w r q) fun f s' z => SP.imp z h1 h2 h3 h4⟩
theorem PDSs.pss (h : PDSs X c sts t) : PSs X sts (LS X.K c t) := ⟨fun pins s σ H D I ⟨F, m, M, env, D3, w, r, q, h1, h2, h3, h4⟩ =>
  thn (h.run pins s σ H F m M env D3 I w r q) fun f s' z => SP.imp z h1 h2 h3 h4⟩
theorem PDS.of {t' : TS} (h : PS X st t') (q : ∀ (σ : L2.St) (H : Hp) (F : Addr → Prop) (m : List Addr) (M : St3) (env : Env3) (D : End3), World X.K c F m M H → Re X.K F m H env σ → t D env M → t' (ends X.K c D) σ H) : PDS X c st t :=
  ⟨fun pins s σ H F m M env D I w r z => h.run pins s σ H _ I (q σ H F m M env D w r z)⟩
theorem PDSs.of {t' : TS} (h : PSs X sts t') (q : ∀ (σ : L2.St) (H : Hp) (F : Addr → Prop) (m : List Addr) (M : St3) (env : Env3) (D : End3), World X.K c F m M H → Re X.K F m H env σ → t D env M → t' (ends X.K c D) σ H) : PDSs X c sts t :=
  ⟨fun pins s σ H F m M env D I w r z => h.run pins s σ H _ I (q σ H F m M env D w r z)⟩
def sNext : TDS := fun D env M => D.nx env M
def sSeq (t u : TDS) : TDS := fun D env M => t { D with nx := u D } env M
theorem pdss_nil : PDSs X c [] sNext := PDSs.of pss_nil fun σ H F m M env D w r q => ⟨F, m, M, env, w, r, q⟩
theorem pdss_cons (h1 : PDS X c st t) (h2 : PDSs X c rest u) : PDSs X c (st :: rest) (sSeq t u) :=
  PDSs.of (pss_cons h1.ps h2.pss) fun σ H F m M env D w r q => ⟨F, m, M, env, _, w, r, q, fun σ' H' ⟨F', m', M', env', w', r', q'⟩ => ⟨F', m', M', env', D, w', r', q', fun _ _ z => z, fun _ _ z => z, fun _ _ z => z, fun _ _ z => z⟩, fun _ _ z => z, fun _ _ z => z, fun _ _ z => z⟩
def sBreak : TDS := fun D env M => D.bk env M
def sCont : TDS := fun D env M => D.ct env M
theorem pds_pass : PDS X c (.Pass pos) sNext := PDS.of ps_pass fun σ H F m M env D w r q => ⟨F, m, M, env, w, r, q⟩
theorem pds_break : PDS X c (.Break pos) sBreak := PDS.of ps_break fun σ H F m M env D w r q => ⟨F, m, M, env, w, r, q⟩
theorem pds_continue : PDS X c (.Continue pos) sCont := PDS.of ps_continue fun σ H F m M env D w r q => ⟨F, m, M, env, w, r, q⟩
def sNever : TDS := fun _ _ _ => False
theorem pds_never : PDS X c st sNever := ⟨fun _ _ _ _ _ _ _ _ _ _ _ _ h => h.elim⟩
theorem pdss_never : PDSs X c sts sNever := ⟨fun _ _ _ _ _ _ _ _ _ _ _ _ h => h.elim⟩
def dNever : TD := fun _ _ _ => False
theorem pd_never : PD X c e dNever := ⟨fun _ _ _ _ _ _ _ _ _ _ _ _ h => h.elim⟩
def sDrop (te : TD) : TDS := fun D env M => te env M fun _ M1 => D.nx env M1
theorem pds_expr (h : PD X c e te) (hs : swapsWith e none pos.line X.env = pure false) : PDS X c (.Expr e pos) (sDrop te) :=
  PDS.of (ps_expr h.pe hs) fun σ H F m M env D w r q => ⟨F, m, M, env, _, w, r, q, fun v H' ⟨d, M', F', m', q1, e1, g, rp⟩ => ⟨F', m', M', env, w.step e1 g, r.ext w.good e1, q1⟩⟩
def sRet (te : TD) : TDS := fun D env M => te env M D.rt
theorem pds_ret (h : PD X c e te) : PDS X c (.Return (some e) pos) (sRet te) :=
  PDS.of (ps_ret h.pe) fun σ H F m M env D w r q => ⟨F, m, M, env, _, w, r, q, fun v H' ⟨d, M', F', m', q1, e1, g, rp⟩ => ⟨d, F', m', M', w.step e1 g, rp, q1⟩⟩
def sRetN : TDS := fun D _ M => D.rt .non M
theorem pds_retN : PDS X c (.Return none pos) sRetN := PDS.of ps_retN fun σ H F m M env D w r q => ⟨.non, F, m, M, w, by simp [Rp], q⟩
def sIf (tc : TDT) (t u : TDS) : TDS := fun D env M => tc env M fun b M1 => if b = true then t D env M1 else u D env M1
theorem pds_if {tst : Expr} {p q : List Stmt} {tc : TDT} (hc : PDT X c tst tc) (ha : PDSs X c p t) (hb : PDSs X c q u) : PDS X c (.If tst p q pos) (sIf tc t u) :=
  PDS.of (ps_if hc.pt ha.pss hb.pss) fun σ H F m M env D w r q => ⟨F, m, M, env, _, w, r, q, fun k H' M' F' m' q1 e g => by
    cases k with
    | true => rw [if_pos rfl] at q1 ⊢; exact ⟨F', m', M', env, D, w.step e g, r.ext w.good e, q1, fun _ _ z => z, fun _ _ z => z, fun _ _ z => z, fun _ _ z => z⟩
    | false => rw [if_neg Bool.false_ne_true] at q1 ⊢; exact ⟨F', m', M', env, D, w.step e g, r.ext w.good e, q1, fun _ _ z => z, fun _ _ z => z, fun _ _ z => z, fun _ _ z => z⟩⟩
end

/-! ### targets -/
abbrev TDG := D → Env3 → St3 → (Env3 → St3 → Prop) → Prop
abbrev TDGs := List D → Env3 → St3 → (Env3 → St3 → Prop) → Prop
/-- ws: the slots that may be written -/
structure PDG (X : Cx) (c : Ctx) (tg : Expr) (ws : List Nat) (t : TDG) : Prop where
  run : ∀ (pins : List (Addr × Obj)) (s : Shared) (σ : L2.St) (H : Hp) (F : Addr → Prop) (m : List Addr) (M : St3) (env : Env3) (d : D) (v : V) (u : Value) (P : Env3 → St3 → Prop),
    Inv X pins σ H s → World X.K c F m M H → Re X.K F m H env σ → Rp X.K F m H d v → RelV v u → t d env M P →
    wpAny (model X.prog X.w) X.A (assign tg X.env u) (fun _ s' => ∃ σ' H', Inv X pins σ' H' s' ∧ ∃ F' m' M' env', P env' M' ∧ Ext F m H F' m' H' ∧ Good X.K F' m' H' M' ∧ Re X.K F' m' H' env' σ' ∧ (∀ i, i ∉ ws → σ'[i]? = σ[i]?)) X.xe s
structure PDGs (X : Cx) (c : Ctx) (ts : List Expr) (ws : List Nat) (t : TDGs) : Prop where
  run : ∀ (pins : List (Addr × Obj)) (s : Shared) (σ : L2.St) (H : Hp) (F : Addr → Prop) (m : List Addr) (M : St3) (env : Env3) (ds : List D) (vs : List V) (us : List Value) (P : Env3 → St3 → Prop),
    Inv X pins σ H s → World X.K c F m M H → Re X.K F m H env σ → Rps X.K F m H ds vs → Vals vs us → t ds env M P →
    wpAny (model X.prog X.w) X.A (assignInOrder ((assignEach ts X.env).map (·.2)) us) (fun _ s' => ∃ σ' H', Inv X pins σ' H' s' ∧ ∃ F' m' M' env', P env' M' ∧ Ext F m H F' m' H' ∧ Good X.K F' m' H' M' ∧ Re X.K F' m' H' env' σ' ∧ (∀ i, i ∉ ws → σ'[i]? = σ[i]?)) X.xe s
def gtName (i : Nat) : TDG := fun d env M P => P (env.set i (some d)) M
def gtNil : TDGs := fun ds env M P => ds = [] ∧ P env M
def gtCons (t : TDG) (u : TDGs) : TDGs := fun ds env M P => ∃ d r, ds = d :: r ∧ t d env M fun env1 M1 => u r env1 M1 P
def gtTup (n : Nat) (t : TDGs) : TDG := fun d env M P => ∃ ds, d = .tup ds ∧ ds.length = n ∧ t ds env M P
section
variable {X : Cx} {c : Ctx} {pos : Pos}
theorem pdg_name {i : Nat} {x : Str} (hN : X.N.Nodup) (hi : X.N[i]? = some x) (hx : Loc X.env.scope x) (hf : X.fn x = true ∨ X.env.scope.names.lookup x = some .local) : PDG X c (.Name x pos) [i] (gtName i) := by
  refine ⟨fun pins s σ H F m M env d v u P I w r rp rv h => ?_⟩
  refine wpAny_assign_Name (store_ok I hN hi hx rv (fun s' I' => ⟨_, H, I', F, m, M, _, h, Ext.refl _ _ _, w.good, r.set rp, fun j hj => ?_⟩) hf)
  exact List.getElem?_set_ne (fun z => hj (by simp [z]))
theorem pdgs_nil : PDGs X c [] [] gtNil := by
  refine ⟨fun pins s σ H F m M env ds vs us P I w r rp rv h => ?_⟩
  obtain ⟨e, h⟩ := h
  subst e
  obtain rfl := Rps.nil_inv rp
  cases rv
  exact assignInOrder_nil ⟨σ, H, I, F, m, M, env, h, Ext.refl _ _ _, w.good, r, fun _ _ => rfl⟩
theorem pdgs_cons {e : Expr} {es : List Expr} {ws1 ws2 : List Nat} {t : TDG} {u : TDGs} (h1 : PDG X c e ws1 t) (h2 : PDGs X c es ws2 u)
    (hs : (assignEach (e :: es) X.env).map (·.2) = assign e X.env :: (assignEach es X.env).map (·.2)) : PDGs X c (e :: es) (ws1 ++ ws2) (gtCons t u) := by
  refine ⟨fun pins s σ H F m M env ds vs us P I w r rp rv h => ?_⟩
  obtain ⟨d, dr, e1, h⟩ := h
  subst e1
  obtain ⟨x, xr, rfl, p1, p2⟩ := Rps.cons_inv rp
  cases rv with
  | cons rv rr =>
    rw [hs]
    refine assignInOrder_cons (thn (h1.run pins s σ H F m M env d x _ _ I w r p1 rv h) fun _ s1 ⟨σ1, H1, I1, F1, m1, M1, env1, q1, e1, g1, r1, n1⟩ => ?_)
    refine thn (h2.run pins s1 σ1 H1 F1 m1 M1 env1 dr xr _ P I1 (w.step e1 g1) r1 (Rps.ext w.good e1 _ _ p2) rr q1) fun _ s2 ⟨σ2, H2, I2, F2, m2, M2, env2, q2, e2, g2, r2, n2⟩ => ?_
    refine ⟨σ2, H2, I2, F2, m2, M2, env2, q2, e1.trans e2, g2, r2, fun i hi => ?_⟩
    rw [List.mem_append, not_or] at hi
    exact (n2 i hi.2).trans (n1 i hi.1)
theorem pdg_tup {es : List Expr} {k : Nat} {ws : List Nat} {t : TDGs} {n : Nat} (hc : X.calm = true) (h : PDGs X c es ws t)
    (hn : (assignEach es X.env).length = n) (hst : (assignEach es X.env).findIdx? (·.1) = none) : PDG X c (.Tuple es k pos) ws (gtTup n t) := by
  refine ⟨fun pins s σ H F m M env d v u P I w r rp rv hw => ?_⟩
  obtain ⟨ds, rfl, hl, hw⟩ := hw
  simp only [Rp] at rp
  obtain ⟨a, xs, rfl, hq, hp⟩ := rp
  cases rv
  obtain ⟨its, rv, ht, hz⟩ := I.tuple hq.sq
  refine assign_Tuple_tuple (I.ok.hd hc) ht (by simp [hn, ← hl, ← rv.length, hp.length]) hst fun h' hx => ?_
  have I1 : Inv X pins σ H { s with heap := h' } := I.kept (t' := s.toks) fun b o e => hx b o (Nat.ne_of_lt (Heap.lt_size e)) e
  exact h.run pins _ σ H F m M env ds xs _ P I1 w r hp (by simpa using rv) hw
def sAsg (te : TD) (g : TDG) : TDS := fun D env M => te env M fun d M1 => g d env M1 D.nx
theorem pds_asg {tg e : Expr} {te : TD} {g : TDG} {ws : List Nat} (he : PD X c e te) (hg : PDG X c tg ws g) (hs : swapsWithSole [tg] e pos.line X.env = pure false) (hw : swappedStores [tg] e X.env = pure none)
    (h1 : (assignEach [tg] X.env).map (·.2) = [assign tg X.env]) : PDS X c (.Assign [tg] e pos) (sAsg te g) := by
  refine ⟨fun pins s σ H F m M env D I w r h => ?_⟩
  refine wpAny_Assign_stores (thn (he.run pins s σ H F m M env _ I w r h) fun v s1 ⟨x, H1, I1, r1, d, M1, F1, m1, q1, e1, g1, rp1⟩ => ?_) hs hw
  rw [h1]
  exact thn (hg.run pins s1 σ H1 F1 m1 M1 env d x v _ I1 (w.step e1 g1) (r.ext w.good e1) rp1 r1 q1) fun _ s2 ⟨σ2, H2, I2, F2, m2, M2, env2, q2, e2, g2, r2, _⟩ => ⟨σ2, H2, I2, F2, m2, M2, env2, (w.step e1 g1).step e2 g2, r2, q2⟩
theorem pds_set {i : Nat} {x : Str} {e : Expr} {te : TD} {pos' : Pos} (hN : X.N.Nodup) (hi : X.N[i]? = some x) (hx : Loc X.env.scope x) (he : PD X c e te) (hs : swapsWith e (some (.Name x pos')) pos.line X.env = pure false) (hf : X.fn x = true ∨ X.env.scope.names.lookup x = some .local) :
    PDS X c (.Assign [.Name x pos'] e pos) (sAsg te (gtName i)) :=
  PDS.of (ps_set hN hi hx he.pe hs hf) fun σ H F m M env D w r q => ⟨F, m, M, env, _, w, r, q, fun v H' ⟨d, M', F', m', q1, e1, g, rp⟩ => ⟨F', m', M', _, w.step e1 g, (r.ext w.good e1).set rp, q1⟩⟩
end
end L3
namespace L3
open PySem PySem.Spec PyProof.Rows L2

/-! ### what a loop walks -/
/-- what reading leans on is kept, and what is locked -/
structure Stz (F : Addr → Prop) (m : List Addr) (H : Hp) (F' : Addr → Prop) (m' : List Addr) (H' : Hp) : Prop extends Stb F m H F' m' H' where
  z : ∀ b o u, H b = some (.frz o u) → H' b = some (.frz o u)
theorem Ext.stz {K : PySem.W.Frag} {F F' : Addr → Prop} {m m' : List Addr} {H H' : Hp} {M : St3} (g : Good K F m H M) (e : Ext F m H F' m' H') : Stz F m H F' m' H' := ⟨e.stb g, e.z⟩
theorem Stb.trans {F F1 F2 : Addr → Prop} {m m1 m2 : List Addr} {H H1 H2 : Hp} (a : Stb F m H F1 m1 H1) (b : Stb F1 m1 H1 F2 m2 H2) : Stb F m H F2 m2 H2 :=
  ⟨fun x xs h => b.tp _ _ (a.tp _ _ h), fun x o xs h => b.fr _ _ _ (a.fr _ _ _ h), fun x h => ⟨(b.fz _ (a.fz _ h).1).1, fun xs q => (b.fz _ (a.fz _ h).1).2.1 _ ((a.fz _ h).2.1 _ q), fun xs q => (b.fz _ (a.fz _ h).1).2.2 _ ((a.fz _ h).2.2 _ q)⟩, by
    obtain ⟨n1, e1⟩ := a.m_
    obtain ⟨n2, e2⟩ := b.m_
    exact ⟨n1 ++ n2, by rw [e2, e1, List.append_assoc]⟩⟩
theorem Stz.trans {F F1 F2 : Addr → Prop} {m m1 m2 : List Addr} {H H1 H2 : Hp} (a : Stz F m H F1 m1 H1) (b : Stz F1 m1 H1 F2 m2 H2) : Stz F m H F2 m2 H2 := ⟨a.toStb.trans b.toStb, fun x o u h => b.z _ _ _ (a.z _ _ _ h)⟩
/-- J yields the items, as long as chk holds of the store -/
structure ItOk (K : PySem.W.Frag) (F1 : Addr → Prop) (m1 : List Addr) (H1 : Hp) (chk : St3 → Prop) (J : It) (items : List D) : Prop where
  item : ∀ (F : Addr → Prop) (m : List Addr) (H : Hp) (M : St3) (i : Nat) (d : D), Stz F1 m1 H1 F m H → Good K F m H M → chk M → items[i]? = some d →
    J.go i H ∧ ∀ v H', J.yld i H v H' → ∃ F', Ext F m H F' m H' ∧ Good K F' m H' M ∧ Rp K F' m H' d v
  done : ∀ (F : Addr → Prop) (m : List Addr) (H : Hp) (M : St3), Stz F1 m1 H1 F m H → Good K F m H M → chk M → J.stop items.length H
abbrev KI := List D → (St3 → Prop) → St3 → Prop
abbrev TDI := Env3 → St3 → KI → Prop
structure PDI (X : Cx) (c : Ctx) (tg iter : Expr) (t : TDI) : Prop where
  run : ∀ (pins : List (Addr × Obj)) (s : Shared) (σ : L2.St) (H : Hp) (F : Addr → Prop) (m : List Addr) (M : St3) (env : Env3) (P : KI),
    Inv X pins σ H s → World X.K c F m M H → Re X.K F m H env σ → t env M P →
    wpAny (model X.prog X.w) X.A (eval iter X.env) (fun v s1 => wpAny (model X.prog X.w) X.A (pyIter v) (PIE X pins σ tg fun J H' =>
      ∃ items chk M' F' m', P items chk M' ∧ Ext F m H F' m' H' ∧ Good X.K F' m' H' M' ∧ ItOk X.K F' m' H' chk J items) X.xe s1) X.xe s
def LI (K : PySem.W.Frag) (c : Ctx) (t : TDI) : TI := fun σ H R => ∃ (F : Addr → Prop) (m : List Addr) (M : St3) (env : Env3) (P : KI), World K c F m M H ∧ Re K F m H env σ ∧ t env M P ∧
  ∀ J H' items chk M' F' m', P items chk M' → Ext F m H F' m' H' → Good K F' m' H' M' → ItOk K F' m' H' chk J items → R J H'
theorem PDI.pi {X : Cx} {c : Ctx} {tg iter : Expr} {t : TDI} (h : PDI X c tg iter t) : PI X tg iter (LI X.K c t) := ⟨fun pins s σ H R I ⟨F, m, M, env, P, w, r, ht, q⟩ =>
  thn (h.run pins s σ H F m M env P I w r ht) fun v s1 z => thn z fun itv s2 ⟨it, fp, tn, J, H', e, I', T, t0, hf, items, chk, M', F', m', p, ex, g, ok⟩ => ⟨it, fp, tn, J, H', e, I', T, t0, hf, q J H' items chk M' F' m' p ex g ok⟩⟩
theorem PDI.of {X : Cx} {c : Ctx} {tg iter : Expr} {t : TDI} {wi : TI} (h : PI X tg iter wi)
    (q : ∀ (σ : L2.St) (H : Hp) (F : Addr → Prop) (m : List Addr) (M : St3) (env : Env3) (P : KI), World X.K c F m M H → Re X.K F m H env σ → t env M P →
      wi σ H fun J H' => ∃ items chk M' F' m', P items chk M' ∧ Ext F m H F' m' H' ∧ Good X.K F' m' H' M' ∧ ItOk X.K F' m' H' chk J items) : PDI X c tg iter t :=
  ⟨fun pins s σ H F m M env P I w r ht => h.run pins s σ H _ I (q σ H F m M env P w r ht)⟩
theorem PI.or {X : Cx} {tg e : Expr} {w1 w2 : TI} (h1 : PI X tg e w1) (h2 : PI X tg e w2) : PI X tg e fun σ H R => w1 σ H R ∨ w2 σ H R :=
  ⟨fun pins s σ H R I h => h.elim (h1.run pins s σ H R I) (h2.run pins s σ H R I)⟩
section
variable {K : PySem.W.Frag} {F1 : Addr → Prop} {m1 : List Addr} {H1 : Hp} {M1 : St3}
theorem itOk_tup (g1 : Good K F1 m1 H1 M1) {a : Addr} {xs : List V} {ds : List D} (h : SqT K H1 a xs) (r : Rps K F1 m1 H1 ds xs) : ItOk K F1 m1 H1 (fun _ => True) (Itt K a) ds := by
  refine ⟨fun F m H M i d e g _ hi => ?_, fun F m H M e g _ => ⟨xs, SqT.stb e.toStb h, by rw [r.length]; exact Nat.le_refl _⟩⟩
  obtain ⟨x, hx, rx⟩ := r.get hi
  exact ⟨⟨xs, x, SqT.stb e.toStb h, hx⟩, fun v H' ⟨e1, q⟩ => by
    subst e1
    have := q xs (SqT.stb e.toStb h)
    rw [hx] at this; cases this
    exact ⟨F, Ext.refl _ _ _, g, Rp.stb e.toStb d x rx⟩⟩
theorem itOk_lst (g1 : Good K F1 m1 H1 M1) {a : Addr} {xs : List V} {ds : List D} (h : FzL K F1 H1 a xs) (r : Rps K F1 m1 H1 ds xs) : ItOk K F1 m1 H1 (fun _ => True) (Itl K a) ds := by
  refine ⟨fun F m H M i d e g _ hi => ?_, fun F m H M e g _ => ⟨xs, (FzL.stb e.toStb h).sq, by rw [r.length]; exact Nat.le_refl _⟩⟩
  obtain ⟨x, hx, rx⟩ := r.get hi
  exact ⟨⟨xs, x, (FzL.stb e.toStb h).sq, hx⟩, fun v H' ⟨e1, q⟩ => by
    subst e1
    have := q xs (FzL.stb e.toStb h).sq
    rw [hx] at this; cases this
    exact ⟨F, Ext.refl _ _ _, g, Rp.stb e.toStb d x rx⟩⟩
theorem itOk_obj (g1 : Good K F1 m1 H1 M1) {n : Nat} {a : Addr} {ds : List D} (h : m1[n]? = some a) : ItOk K F1 m1 H1 (fun M => M[n]? = some (.lst ds)) (Itl K a) ds := by
  have at_ : ∀ {F : Addr → Prop} {m : List Addr} {H : Hp} {M : St3}, Stz F1 m1 H1 F m H → Good K F m H M → M[n]? = some (.lst ds) → ∃ xs, H a = some (.lst xs) ∧ Rps K F m H ds xs := fun {F m H M} e g hM => by
    obtain ⟨nu, e1⟩ := e.m_
    have hm : m[n]? = some a := by rw [e1, List.getElem?_append_left (List.getElem?_eq_some_iff.mp h).1]; exact h
    exact (g.at_ n a _ hm hM).2
  refine ⟨fun F m H M i d e g hc hi => ?_, fun F m H M e g hc => ?_⟩
  · obtain ⟨xs, h1, r⟩ := at_ e g hc
    obtain ⟨x, hx, rx⟩ := r.get hi
    exact ⟨⟨xs, x, SqL.of h1, hx⟩, fun v H' ⟨e1, q⟩ => by
      subst e1
      have := q xs (SqL.of h1)
      rw [hx] at this; cases this
      exact ⟨F, Ext.refl _ _ _, g, rx⟩⟩
  · obtain ⟨xs, h1, r⟩ := at_ e g hc
    exact ⟨xs, SqL.of h1, by rw [r.length]; exact Nat.le_refl _⟩
/-- the signs of a text -/
def signs (x : Str) : List D := x.cps.toList.map fun c => .str ⟨#[c]⟩
theorem sign_ok (c : Nat) : (⟨#[c]⟩ : Str).length ≤ sizeLine := by show 1 ≤ sizeLine; decide
theorem itOk_str {x : Str} : ItOk K F1 m1 H1 (fun _ => True) (Its x) (signs x) := by
  refine ⟨fun F m H M i d e g _ hi => ?_, fun F m H M e g _ => by show x.cps.size ≤ (signs x).length; simp [signs]⟩
  unfold signs at hi
  rw [List.getElem?_map] at hi
  cases q : x.cps.toList[i]? with
  | none => rw [q] at hi; cases hi
  | some c =>
    rw [q] at hi
    have hd : D.str ⟨#[c]⟩ = d := Option.some.inj hi
    subst hd
    have hl : i < x.cps.size := by have := (List.getElem?_eq_some_iff.mp q).1; simpa using this
    refine ⟨hl, fun v H' ⟨e1, c', hc', ev⟩ => ?_⟩
    subst e1 ev
    have : c' = c := by
      rw [Array.getElem?_toList] at q
      rw [q] at hc'; exact (Option.some.inj hc').symm
    subst this
    exact ⟨F, Ext.refl _ _ _, g, by simp only [Rp]; exact ⟨trivial, sign_ok _⟩⟩
def seqI (lo : Int) (n : Nat) : List D := (List.range n).map fun (i : Nat) => D.int (lo + (i : Int))
theorem itOk_range {lo : Int} {n : Nat} : ItOk K F1 m1 H1 (fun _ => True) (Itr lo n) (seqI lo n) := by
  refine ⟨fun F m H M i d e g _ hi => ?_, fun F m H M e g _ => by show n ≤ (seqI lo n).length; simp [seqI]⟩
  unfold seqI at hi
  rw [List.getElem?_map] at hi
  cases q : (List.range n)[i]? with
  | none => rw [q] at hi; cases hi
  | some j =>
    rw [q] at hi
    have hl := (List.getElem?_eq_some_iff.mp q).1
    rw [List.length_range] at hl
    have hj : j = i := by rw [List.getElem?_range hl] at q; exact (Option.some.inj q).symm
    subst hj
    have hd : D.int (lo + (j : Int)) = d := Option.some.inj hi
    subst hd
    exact ⟨hl, fun v H' ⟨e1, ev⟩ => by subst e1 ev; exact ⟨F, Ext.refl _ _ _, g, by simp [Rp]⟩⟩
def seqC (lo c : Int) (n : Nat) : List D := (List.range n).map fun (i : Nat) => D.int (lo + (i : Int) * c)
theorem itOk_rangeC {lo c : Int} {n : Nat} : ItOk K F1 m1 H1 (fun _ => True) (Itc lo c n) (seqC lo c n) := by
  refine ⟨fun F m H M i d e g _ hi => ?_, fun F m H M e g _ => by show n ≤ (seqC lo c n).length; simp [seqC]⟩
  unfold seqC at hi
  rw [List.getElem?_map] at hi
  cases q : (List.range n)[i]? with
  | none => rw [q] at hi; cases hi
  | some j =>
    rw [q] at hi
    have hl := (List.getElem?_eq_some_iff.mp q).1
    rw [List.length_range] at hl
    have hj : j = i := by rw [List.getElem?_range hl] at q; exact (Option.some.inj q).symm
    subst hj
    have hd : D.int (lo + (j : Int) * c) = d := Option.some.inj hi
    subst hd
    exact ⟨hl, fun v H' ⟨e1, ev⟩ => by subst e1 ev; exact ⟨F, Ext.refl _ _ _, g, by simp [Rp]⟩⟩
end

/-- the items of a value, and what has to stay so -/
def itemsOf (M : St3) : D → Option (List D × (St3 → Prop))
  | .tup ds => some (ds, fun _ => True)
  | .lst ds => some (ds, fun _ => True)
  | .str x => some (signs x, fun _ => True)
  | .obj n => match M[n]? with
    | some (.lst ds) => some (ds, fun M => M[n]? = some (.lst ds))
    | _ => none
  | _ => none
def dIter (t : TD) : TDI := fun env M P => t env M fun d M1 => ∃ q, itemsOf M1 d = some q ∧ P q.1 q.2 M1
section
variable {X : Cx} {c : Ctx} {tg e : Expr} {te ta tb tc : TD}
theorem pdi_val (h : PD X c e te) : PDI X c tg e (dIter te) := by
  have hL := pi_list (tg := tg) h.pe
  have hT := pi_tup (tg := tg) h.pe
  have hS := pi_str (tg := tg) h.pe
  refine ⟨fun pins s σ H F m M env P I w r ht => ?_⟩
  -- by what the value is, told ahead of the run: the run's own end says it, so the iterator is asked behind it
  refine thn (h.run pins s σ H F m M env _ I w r ht) fun u s1 ⟨v, H1, I1, rv, d, M1, F1, m1, ⟨q, hq, p⟩, e1, g1, rp⟩ => ?_
  have fin : ∀ J H2 items chk, H2 = H1 → items = q.1 → chk = q.2 → ItOk X.K F1 m1 H1 chk J items → ∃ items chk M' F' m', P items chk M' ∧ Ext F m H F' m' H2 ∧ Good X.K F' m' H2 M' ∧ ItOk X.K F' m' H2 chk J items := fun J H2 items chk eh ei ec ok => by
    subst eh ei ec
    exact ⟨_, _, M1, F1, m1, p, e1, g1, ok⟩
  cases d with
  | tup ds =>
    cases hq
    simp only [Rp] at rp
    obtain ⟨a, xs, rfl, h1, h2⟩ := rp
    cases rv
    obtain ⟨its, rv, ht, hz⟩ := I1.tuple h1.sq
    refine wpAny_pyIter_tuple (show s1.heap.IsTuple a its.toArray from ht) ?_
    refine ⟨s1.heap.objs.size, [s1.heap.objs.size], _, _, H1, rfl, I1.kept (t' := s1.toks) fun b o e => Heap.get?_push_of_some _ e, turn_tuple a _, ⟨_, Heap.get?_push_size _ rfl, rfl, rfl⟩, fun b hb => ?_, fin _ _ _ _ rfl rfl rfl (itOk_tup g1 h1.sq h2)⟩
    have e : b = s1.heap.objs.size := by simpa using hb
    subst e
    exact I1.fpOk (Nat.le_refl _) (I1.hok.fresh (Nat.le_refl _))
  | lst ds =>
    cases hq
    simp only [Rp] at rp
    obtain ⟨a, xs, rfl, h1, h2⟩ := rp
    cases rv
    obtain ⟨its, rv, ht, hz⟩ := I1.list h1.sq
    refine wpAny_pyIter_list ht.isList ?_
    refine ⟨s1.heap.objs.size, [s1.heap.objs.size], _, _, H1, rfl, I1.kept (t' := s1.toks) fun b o e => Heap.get?_push_of_some _ e, turn_list a _, ⟨_, Heap.get?_push_size _ rfl, rfl, rfl⟩, fun b hb => ?_, fin _ _ _ _ rfl rfl rfl (itOk_lst g1 h1 h2)⟩
    have e : b = s1.heap.objs.size := by simpa using hb
    subst e
    exact I1.fpOk (Nat.le_refl _) (I1.hok.fresh (Nat.le_refl _))
  | obj n =>
    simp only [itemsOf] at hq
    split at hq
    · rename_i ds hM
      cases hq
      simp only [Rp] at rp
      obtain ⟨a, hm, rfl⟩ := rp
      cases rv
      obtain ⟨xs, h1, h2⟩ := (g1.at_ n a _ hm hM).2
      obtain ⟨its, rv, ht, hz⟩ := I1.list (SqL.of h1)
      refine wpAny_pyIter_list ht.isList ?_
      refine ⟨s1.heap.objs.size, [s1.heap.objs.size], _, _, H1, rfl, I1.kept (t' := s1.toks) fun b o e => Heap.get?_push_of_some _ e, turn_list a _, ⟨_, Heap.get?_push_size _ rfl, rfl, rfl⟩, fun b hb => ?_, fin _ _ _ _ rfl rfl rfl (itOk_obj g1 hm)⟩
      have e : b = s1.heap.objs.size := by simpa using hb
      subst e
      exact I1.fpOk (Nat.le_refl _) (I1.hok.fresh (Nat.le_refl _))
    · cases hq
  | str x =>
    cases hq
    simp only [Rp] at rp
    obtain ⟨rfl, _⟩ := rp
    obtain ⟨t, rfl⟩ := rv
    cases ha : x.cps.all (· < 128)
    · exact wpAny_pyIter_wide ha (pi_one (tk := s1.toks) I1 _ (turn_str _ x t "str_iterator" (.inr rfl)) ⟨_, Heap.get?_push_size _ rfl, rfl, rfl⟩ (fin _ _ _ _ rfl rfl rfl itOk_str))
    · exact wpAny_pyIter_ascii ha (pi_one (tk := s1.toks) I1 _ (turn_str _ x t "str_ascii_iterator" (.inl rfl)) ⟨_, Heap.get?_push_size _ rfl, rfl, rfl⟩ (fin _ _ _ _ rfl rfl rfl itOk_str))
  | non => cases hq
  | bl b => cases hq
  | int i => cases hq
  | dic ks ds => cases hq
  | raw w => cases hq

/-! range -/
def rgB (i : Int) : Prop := -(2 ^ 62) ≤ i ∧ i < 2 ^ 62
def dRange1 (ta : TDA) : TDI := fun env M P => ta env M fun ds M1 => ∃ n, ds = [.int n] ∧ rgB n ∧ P (seqI 0 n.toNat) (fun _ => True) M1
def dRange2 (ta : TDA) : TDI := fun env M P => ta env M fun ds M1 => ∃ a b, ds = [.int a, .int b] ∧ rgB a ∧ rgB b ∧ P (seqI a (b - a).toNat) (fun _ => True) M1
def dRange3 (ta : TDA) : TDI := fun env M P => ta env M fun ds M1 => ∃ (a b k : Int) (n : Nat), ds = [.int a, .int b, .int k] ∧ RgC a b k n ∧ P (seqC a k n) (fun _ => True) M1
theorem rps1 {K : PySem.W.Frag} {F : Addr → Prop} {m : List Addr} {H : Hp} {d : D} {vs : List V} (h : Rps K F m H [d] vs) : ∃ v, vs = [v] ∧ Rp K F m H d v := by
  obtain ⟨x, r, rfl, h1, h2⟩ := Rps.cons_inv h
  obtain rfl := Rps.nil_inv h2
  exact ⟨x, rfl, h1⟩
theorem rps2 {K : PySem.W.Frag} {F : Addr → Prop} {m : List Addr} {H : Hp} {d e : D} {vs : List V} (h : Rps K F m H [d, e] vs) : ∃ v w, vs = [v, w] ∧ Rp K F m H d v ∧ Rp K F m H e w := by
  obtain ⟨x, r, rfl, h1, h2⟩ := Rps.cons_inv h
  obtain ⟨y, rfl, h3⟩ := rps1 h2
  exact ⟨x, y, rfl, h1, h3⟩
theorem rps3 {K : PySem.W.Frag} {F : Addr → Prop} {m : List Addr} {H : Hp} {d e f : D} {vs : List V} (h : Rps K F m H [d, e, f] vs) : ∃ v w z, vs = [v, w, z] ∧ Rp K F m H d v ∧ Rp K F m H e w ∧ Rp K F m H f z := by
  obtain ⟨x, r, rfl, h1, h2⟩ := Rps.cons_inv h
  obtain ⟨y, z, rfl, h3, h4⟩ := rps2 h2
  exact ⟨x, y, z, rfl, h1, h3, h4⟩
theorem rp_int {K : PySem.W.Frag} {F : Addr → Prop} {m : List Addr} {H : Hp} {i : Int} {v : V} (h : Rp K F m H (.int i) v) : v = .int i := by simpa only [Rp] using h
theorem pdi_range1 {a : Expr} {t : TDA} {p pos : Pos} (hg : Gl X "range") (hm : X.mg "range" = none) (ha : PDA X c [a] t) (hs : starEach [a] X.env = [(false, eval a X.env)]) : PDI X c tg (.Call (.Name "range" p) [a] [] pos) (dRange1 t) :=
  PDI.of (pi_range1 hg hm ha.pa hs) fun σ H F m M env P w r ht => ⟨F, m, M, env, _, w, r, ht, fun vs H' ds M' F' m' ⟨n, ed, ⟨b1, b2⟩, p⟩ e g rp => by
    subst ed
    obtain ⟨v, rfl, h1⟩ := rps1 rp
    obtain rfl := rp_int h1
    exact ⟨n, rfl, b1, b2, _, _, M', F', m', p, e, g, itOk_range⟩⟩
theorem pdi_range2 {a b : Expr} {t : TDA} {p pos : Pos} (hg : Gl X "range") (hm : X.mg "range" = none) (ha : PDA X c [a, b] t) (hs : starEach [a, b] X.env = [(false, eval a X.env), (false, eval b X.env)]) (hs2 : starEach [b] X.env = [(false, eval b X.env)]) : PDI X c tg (.Call (.Name "range" p) [a, b] [] pos) (dRange2 t) :=
  PDI.of (pi_range2 hg hm ha.pa hs hs2) fun σ H F m M env P w r ht => ⟨F, m, M, env, _, w, r, ht, fun vs H' ds M' F' m' ⟨x, y, ed, ⟨b1, b2⟩, ⟨b3, b4⟩, p⟩ e g rp => by
    subst ed
    obtain ⟨v, w, rfl, h1, h2⟩ := rps2 rp
    obtain rfl := rp_int h1
    obtain rfl := rp_int h2
    exact ⟨x, y, rfl, ⟨b1, b2, b3, b4⟩, _, _, M', F', m', p, e, g, itOk_range⟩⟩
theorem pdi_range3 {a b k : Expr} {t : TDA} {p pos : Pos} (hg : Gl X "range") (hm : X.mg "range" = none) (ha : PDA X c [a, b, k] t) (hs : starEach [a, b, k] X.env = (false, eval a X.env) :: starEach [b, k] X.env) (hpl : (backTo pos (starEach [b, k] X.env)).any (·.1) = false) : PDI X c tg (.Call (.Name "range" p) [a, b, k] [] pos) (dRange3 t) :=
  PDI.of (pi_range3 hg hm ha.pa hs hpl) fun σ H F m M env P w r ht => ⟨F, m, M, env, _, w, r, ht, fun vs H' ds M' F' m' ⟨x, y, z, n, ed, hR, p⟩ e g rp => by
    subst ed
    obtain ⟨v, w, u, rfl, h1, h2, h3⟩ := rps3 rp
    obtain rfl := rp_int h1
    obtain rfl := rp_int h2
    obtain rfl := rp_int h3
    exact ⟨x, y, z, n, rfl, hR, _, _, M', F', m', p, e, g, itOk_rangeC⟩⟩
end

/-! ### for -/
def forGo (g : TDG) (tb : TDS) (Z : End3) (chk : St3 → Prop) : List D → Env3 → St3 → Prop
  | [], env, M => chk M ∧ Z.nx env M
  | x :: xs, env, M => chk M ∧ g x env M fun env1 M1 => tb { Z with nx := forGo g tb Z chk xs, ct := forGo g tb Z chk xs, bk := Z.nx } env1 M1
def sFor (ti : TDI) (g : TDG) (tb : TDS) : TDS := fun D env M => ti env M fun items chk M1 => forGo g tb D chk items env M1
theorem PDG.pg {X : Cx} {c : Ctx} {tg : Expr} {ws : List Nat} {g : TDG} (h : PDG X c tg ws g) : PG X tg fun v σ H Q => ∃ (F : Addr → Prop) (m : List Addr) (M : St3) (env : Env3) (d : D) (P : Env3 → St3 → Prop),
    World X.K c F m M H ∧ Re X.K F m H env σ ∧ Rp X.K F m H d v ∧ g d env M P ∧ ∀ σ' H' F' m' M' env', P env' M' → Ext F m H F' m' H' → Good X.K F' m' H' M' → Re X.K F' m' H' env' σ' → (σ'.length = σ.length ∧ ∀ i, i ∉ ws → σ'[i]? = σ[i]?) → Q σ' H' :=
  ⟨fun pins s σ H v u Q I rv ⟨F, m, M, env, d, P, w, r, rp, hg, q⟩ => thn (h.run pins s σ H F m M env d v u P I w r rp rv hg) fun _ s' ⟨σ', H', I', F', m', M', env', p, e, g', r', n⟩ => ⟨σ', H', I', q σ' H' F' m' M' env' p e g' r' ⟨I'.len.trans I.len.symm, n⟩⟩⟩
section
variable {X : Cx} {c : Ctx} {tg iter : Expr} {body : List Stmt} {ti : TDI} {g : TDG} {ws : List Nat} {tb : TDS} {pos : Pos}
theorem drop_get {α : Type} {l : List α} {i : Nat} (h : i < l.length) : ∃ x, l[i]? = some x ∧ l.drop i = x :: l.drop (i + 1) := ⟨l[i], by simp [h], List.drop_eq_getElem_cons h⟩
theorem World.re {K : PySem.W.Frag} {c : Ctx} {F1 F2 : Addr → Prop} {m1 m2 : List Addr} {M1 M2 : St3} {H1 H2 : Hp} (w : World K c F1 m1 M1 H1) (w2 : World K ⟨F1, m1, H1⟩ F2 m2 M2 H2) : World K c F2 m2 M2 H2 := w.step w2.ext w2.good
theorem fEnv.re {K : PySem.W.Frag} {c : Ctx} {F1 : Addr → Prop} {m1 : List Addr} {M1 : St3} {H1 : Hp} (w : World K c F1 m1 M1 H1) {N : Env3 → St3 → Prop} {σ : L2.St} {H : Hp} (h : fEnv K ⟨F1, m1, H1⟩ N σ H) : fEnv K c N σ H := by
  obtain ⟨F, m, M, env, w2, r, q⟩ := h
  exact ⟨F, m, M, env, w.re w2, r, q⟩
theorem fRet.re {K : PySem.W.Frag} {c : Ctx} {F1 : Addr → Prop} {m1 : List Addr} {M1 : St3} {H1 : Hp} (w : World K c F1 m1 M1 H1) {R : KD} {v : V} {H : Hp} (h : fRet K ⟨F1, m1, H1⟩ R v H) : fRet K c R v H := by
  obtain ⟨d, F, m, M, w2, r, q⟩ := h
  exact ⟨d, F, m, M, w.re w2, r, q⟩
theorem PDS.new {X : Cx} {c : Ctx} {st : Stmt} {t : TDS} (h : ∀ c', PS X st (LS X.K c' t)) : PDS X c st t := by
  refine ⟨fun pins s σ H F m M env D I w r q => ?_⟩
  exact thn ((h ⟨F, m, H⟩).run pins s σ H (ends X.K ⟨F, m, H⟩ D) I ⟨F, m, M, env, D, ⟨Ext.refl _ _ _, w.good⟩, r, q, fun _ _ z => z, fun _ _ z => z, fun _ _ z => z, fun _ _ z => z⟩)
    fun f s' z => SP.imp z (fun _ _ y => y.re w) (fun _ _ y => y.re w) (fun _ _ y => y.re w) fun _ _ y => y.re w
theorem pds_for (hp : PassesOwn (model X.prog X.w) X.A X.env X.xe) (hc : X.calm = true) (hi : PDI X c tg iter ti) (hg : ∀ c', PDG X c' tg ws g) (hb : ∀ c', PDSs X c' body tb)
    (hs : ∀ x, foldedSetIterable iter X.env x = pure x) : PDS X c (.For tg iter body [] pos) (sFor ti g tb) := by
  have hgw : PG X tg fun v σ H Q => ∃ c', (∃ (F : Addr → Prop) (m : List Addr) (M : St3) (env : Env3) (d : D) (P : Env3 → St3 → Prop),
      World X.K c' F m M H ∧ Re X.K F m H env σ ∧ Rp X.K F m H d v ∧ g d env M P ∧ ∀ σ' H' F' m' M' env', P env' M' → Ext F m H F' m' H' → Good X.K F' m' H' M' → Re X.K F' m' H' env' σ' → (σ'.length = σ.length ∧ ∀ i, i ∉ ws → σ'[i]? = σ[i]?) → Q σ' H') :=
    ⟨fun pins s σ H v u Q I rv ⟨c', h⟩ => (hg c').pg.run pins s σ H v u Q I rv h⟩
  have hbw : PSs X body fun D σ H => ∃ c', LS X.K c' tb D σ H := ⟨fun pins s σ H D I ⟨c', h⟩ => (hb c').pss.run pins s σ H D I h⟩
  refine PDS.of (ps_for hp hc hi.pi hgw hbw hs) fun σ H F m M env D w r ht => ?_
  refine ⟨F, m, M, env, _, w, r, ht, fun J H1 items chk M1 F1 m1 hgo e1 g1 ok => ?_⟩
  have w1 := w.step e1 g1
  refine ⟨fun i n σ' H' => n = items.length - i ∧ i ≤ items.length ∧ ∃ F' m' M' env', World X.K ⟨F1, m1, H1⟩ F' m' M' H' ∧ Re X.K F' m' H' env' σ' ∧ forGo g tb D chk (items.drop i) env' M',
    ⟨items.length, by simp, Nat.zero_le _, F1, m1, M1, env, ⟨Ext.refl _ _ _, g1⟩, r.ext w.good e1, by simpa using hgo⟩, ?_⟩
  rintro i n σ2 H2 ⟨rfl, hle, F2, m2, M2, env2, w2, r2, hgo2⟩
  by_cases hlt : i < items.length
  · obtain ⟨x, hx, hd⟩ := drop_get hlt
    rw [hd] at hgo2
    obtain ⟨hck, hg2⟩ := hgo2
    obtain ⟨hGo, hY⟩ := ok.item F2 m2 H2 M2 i x (w2.ext.stz g1) w2.good hck hx
    refine .inr ⟨hGo, fun σ' H' => ∃ F' m' M' env', World X.K ⟨F1, m1, H1⟩ F' m' M' H' ∧ Re X.K F' m' H' env' σ' ∧ forGo g tb D chk (items.drop (i + 1)) env' M', fun σ' H' z => ⟨items.length - (i + 1), by omega, rfl, by omega, z⟩, fun v H3 hy => ?_⟩
    obtain ⟨F3, e3, g3, rp3⟩ := hY v H3 hy
    refine ⟨⟨F1, m1, H1⟩, F3, m2, M2, env2, x, _, w2.step e3 g3, r2.ext w2.good e3, rp3, hg2, fun σ4 H4 F4 m4 M4 env4 hb4 e4 g4 r4 _ => ?_⟩
    refine ⟨⟨F1, m1, H1⟩, F4, m4, M4, env4, _, (w2.step e3 g3).step e4 g4, r4, hb4, ?_, ?_, ?_, ?_⟩
    · rintro σ' H' ⟨F5, m5, M5, env5, w5, r5, q5⟩
      exact ⟨F5, m5, M5, env5, w5, r5, q5⟩
    · exact fun v H' z => z.re w1
    · exact fun σ' H' z => z.re w1
    · rintro σ' H' ⟨F5, m5, M5, env5, w5, r5, q5⟩
      exact ⟨F5, m5, M5, env5, w5, r5, q5⟩
  · have hi : i = items.length := by omega
    subst hi
    rw [List.drop_length] at hgo2
    exact .inl ⟨ok.done F2 m2 H2 M2 (w2.ext.stz g1) w2.good hgo2.1, F2, m2, M2, env2, w1.re w2, r2, hgo2.2⟩
/-! ### while: the word W with its measure -/
def sWhile (tc : TDT) (tb : TDS) : TDS := fun D env M => ∃ W : Nat → Env3 → St3 → Prop, (∃ n, W n env M) ∧ ∀ n env M, W n env M →
  tc env M fun b M1 => if b = true then tb { D with nx := fun e M' => ∃ n', n' < n ∧ W n' e M', ct := fun e M' => ∃ n', n' < n ∧ W n' e M', bk := D.nx } env M1 else D.nx env M1
theorem pds_while {tst : Expr} {tc : TDT} (hp : PassesOwn (model X.prog X.w) X.A X.env X.xe) (hc : ∀ c', PDT X c' tst tc) (hb : ∀ c', PDSs X c' body tb) : PDS X c (.While tst body [] pos) (sWhile tc tb) := by
  refine PDS.of (ps_while hp (hc c).pt (hb c).pss) fun σ H F m M env D w r ht => ?_
  obtain ⟨W, ⟨n0, h0⟩, turn⟩ := ht
  refine ⟨fun n σ' H' => ∃ F' m' M' env', World X.K c F' m' M' H' ∧ Re X.K F' m' H' env' σ' ∧ W n env' M', ⟨n0, F, m, M, env, w, r, h0⟩, ?_⟩
  rintro n σ2 H2 ⟨F2, m2, M2, env2, w2, r2, h2⟩
  refine ⟨F2, m2, M2, env2, _, w2, r2, turn n env2 M2 h2, fun b H3 M3 F3 m3 q3 e3 g3 => ?_⟩
  cases b with
  | true =>
    rw [if_pos rfl] at q3 ⊢
    refine ⟨fun σ' H' => ∃ F' m' M' env', World X.K c F' m' M' H' ∧ Re X.K F' m' H' env' σ' ∧ ∃ n', n' < n ∧ W n' env' M', fun σ' H' ⟨F', m', M', env', a, b, n', hn, z⟩ => ⟨n', hn, F', m', M', env', a, b, z⟩, ?_⟩
    exact ⟨F3, m3, M3, env2, _, w2.step e3 g3, r2.ext w2.good e3, q3, fun _ _ z => z, fun _ _ z => z, fun _ _ z => z, fun _ _ z => z⟩
  | false =>
    rw [if_neg Bool.false_ne_true] at q3 ⊢
    exact ⟨F3, m3, M3, env2, w2.step e3 g3, r2.ext w2.good e3, q3⟩
end
end L3
namespace L3
open PySem PySem.Spec PyProof.Rows L2

/-! ### comprehensions -/
def wipe3 (env : Env3) : List Nat → Env3
  | [] => env
  | v :: vs => (wipe3 env vs).set v none
theorem wipe3_length (env : Env3) : ∀ vs, (wipe3 env vs).length = env.length
  | [] => rfl
  | v :: vs => by unfold wipe3; rw [List.length_set, wipe3_length env vs]
theorem wipe3_some {env : Env3} {i : Nat} {d : D} : ∀ {vs : List Nat}, (wipe3 env vs)[i]? = some (some d) → env[i]? = some (some d) ∧ i ∉ vs
  | [], h => ⟨h, by simp⟩
  | v :: vs, h => by
    unfold wipe3 at h
    by_cases hi : v = i
    · subst hi
      by_cases hv : v < (wipe3 env vs).length
      · rw [List.getElem?_set_self hv] at h; cases h
      · rw [List.getElem?_eq_none (by simpa using hv)] at h; cases h
    · rw [List.getElem?_set_ne hi] at h
      obtain ⟨h1, h2⟩ := wipe3_some h
      exact ⟨h1, by simp only [List.mem_cons, not_or]; exact ⟨fun e => hi e.symm, h2⟩⟩
theorem wipe_at {σ : L2.St} {i : Nat} : ∀ {vs : List Nat}, (wipe σ vs)[i]? = if i ∈ vs then (σ[i]?).map (fun _ => none) else σ[i]?
  | [] => by simp [wipe]
  | v :: vs => by
    unfold wipe
    by_cases hi : v = i
    · subst hi
      rw [if_pos (by simp)]
      by_cases hv : v < (wipe σ vs).length
      · rw [List.getElem?_set_self hv]
        rw [wipe_length] at hv
        simp [hv]
      · rw [List.getElem?_eq_none (by simpa using hv)]
        rw [wipe_length] at hv
        simp [List.getElem?_eq_none (Nat.le_of_not_lt hv)]
    · rw [List.getElem?_set_ne hi, wipe_at (vs := vs)]
      have : i ∈ v :: vs ↔ i ∈ vs := by simp [Ne.symm hi]
      by_cases hm : i ∈ vs
      · rw [if_pos hm, if_pos (this.mpr hm)]
      · rw [if_neg hm, if_neg (fun z => hm (this.mp z))]
theorem wipe_back {σ σ2 : L2.St} {vs ws : List Nat} (hl : σ2.length = σ.length) (hw : ∀ i ∈ ws, i ∈ vs) (h : ∀ i, i ∉ ws → σ2[i]? = (wipe σ vs)[i]?) : wipe σ2 vs = wipe σ vs := by
  apply List.ext_getElem?
  intro i
  rw [wipe_at, wipe_at]
  by_cases hm : i ∈ vs
  · rw [if_pos hm, if_pos hm]
    by_cases hi : i < σ.length
    · have h2 : i < σ2.length := by omega
      simp [hi, h2]
    · have h2 : σ2.length ≤ i := by omega
      rw [List.getElem?_eq_none h2, List.getElem?_eq_none (Nat.le_of_not_lt hi)]
  · rw [if_neg hm, if_neg hm]
    have := h i (fun z => hm (hw i z))
    rw [this, wipe_at, if_neg hm]
theorem Re.wipe {K : PySem.W.Frag} {F : Addr → Prop} {m : List Addr} {H : Hp} {env : Env3} {σ : L2.St} (r : Re K F m H env σ) (vs : List Nat) : Re K F m H (wipe3 env vs) (L2.wipe σ vs) := by
  refine ⟨by rw [wipe3_length, wipe_length, r.len], fun i d h => ?_⟩
  obtain ⟨h1, h2⟩ := wipe3_some h
  obtain ⟨v, h3, h4⟩ := r.at_ i d h1
  exact ⟨v, by rw [wipe_at, if_neg h2]; exact h3, h4⟩
theorem Re.stb {K : PySem.W.Frag} {F F' : Addr → Prop} {m m' : List Addr} {H H' : Hp} {env : Env3} {σ : L2.St} (r : Re K F m H env σ) (e : Stb F m H F' m' H') : Re K F' m' H' env σ :=
  ⟨r.len, fun i d h => let ⟨v, h1, h2⟩ := r.at_ i d h; ⟨v, h1, Rp.stb e d v h2⟩⟩
/-- the tests of a comprehension -/
structure PDTs (X : Cx) (c : Ctx) (ifs : List Expr) (t : TDT) : Prop where
  run : PTs X ifs (LT X.K c t)
def dYes : TDT := fun _ M P => P true M
theorem pdts_nil {X : Cx} {c : Ctx} : PDTs X c [] dYes := ⟨⟨fun pins s σ H Q I ⟨F, m, M, env, P, w, r, h, q⟩ => pts_nil.run pins s σ H Q I (q true H M F m h (Ext.refl _ _ _) w.good)⟩⟩
theorem pdts_one {X : Cx} {c : Ctx} {e : Expr} {t : TDT} (h : PDT X c e t) : PDTs X c [e] t := ⟨pts_one h.pt⟩

def lcGo (g : TDG) (tt : TDT) (te : TD) (chk : St3 → Prop) (env0 : Env3) (P : List D → St3 → Prop) : List D → List D → St3 → Prop
  | [], acc, M => chk M ∧ P acc M
  | x :: xs, acc, M => chk M ∧ g x env0 M fun env1 M1 => tt env1 M1 fun b M2 =>
    if b = true then te env1 M2 fun d M3 => acc.length < sizeLine ∧ lcGo g tt te chk env0 P xs (acc ++ [d]) M3 else lcGo g tt te chk env0 P xs acc M2
/-- own: the new list is shared, to be changed -/
def dLc (own : Bool) (ti : TDI) (g : TDG) (tt : TDT) (te : TD) (vs : List Nat) : TD := fun env M P =>
  ti env M fun items chk M1 => lcGo g tt te chk (wipe3 env vs) (fun acc M2 => if own = true then P (.obj M2.length) (M2 ++ [.lst acc]) else P (.lst acc) M2) items [] M1

section
variable {X : Cx} {c : Ctx} {elt tg iter : Expr} {ifs : List Expr} {scope : Scope} {own : List (Str × Nat)} {pos : Pos} {ti : TDI} {g : TDG} {tt : TDT} {te : TD} {ws : List Nat}
theorem lc_frame {K : PySem.W.Frag} {F F' : Addr → Prop} {m m' : List Addr} {H H' : Hp} {D0 : Addr} {xs : List V} (h : H D0 = some (.lst xs)) (hF : ¬ F D0) (hm : D0 ∉ m) (e : Ext F m H F' m' H') : H' D0 = some (.lst xs) ∧ ¬ F' D0 ∧ D0 ∉ m' := by
  refine ⟨e.kx h hm (fun _ z => by cases z), fun z => ?_, fun z => ?_⟩
  · rcases e.fn _ z with q | q
    · exact hF q
    · rw [h] at q; cases q
  · obtain ⟨n, e1, q⟩ := e.m_
    rw [e1] at z
    rcases List.mem_append.mp z with z | z
    · exact hm z
    · rw [q _ z] at h; cases h
theorem lc_lift (ownB : Bool) (hws : ∀ i ∈ ws, i ∈ own.map (·.2)) (σ : L2.St) (H : Hp) (F : Addr → Prop) (m : List Addr) (M : St3) (env : Env3) (P : KD) (w : World X.K c F m M H) (r : Re X.K F m H env σ)
    (ht : dLc ownB ti g tt te (own.map (·.2)) env M P) :
    tLc (LI X.K c ti)
      (fun v σ H Q => ∃ c', (∃ (F : Addr → Prop) (m : List Addr) (M : St3) (env : Env3) (d : D) (P : Env3 → St3 → Prop), World X.K c' F m M H ∧ Re X.K F m H env σ ∧ Rp X.K F m H d v ∧ g d env M P ∧
        ∀ σ' H' F' m' M' env', P env' M' → Ext F m H F' m' H' → Good X.K F' m' H' M' → Re X.K F' m' H' env' σ' → (σ'.length = σ.length ∧ ∀ i, i ∉ ws → σ'[i]? = σ[i]?) → Q σ' H'))
      (fun σ H Q => ∃ c', LT X.K c' tt σ H Q) (fun σ H Q => ∃ c', LE X.K c' te σ H Q) (own.map (·.2)) σ H (Fin X.K F m H P) := by
  refine ⟨F, m, M, env, _, w, r, ht, fun J H1 items chk M1 F1 m1 hgo e1 g1 ok D0 hD => ?_⟩
  have w1 := w.step e1 g1
  have r1 := r.ext w.good e1
  have hF1 : ¬ F1 D0 := fun z => by
    exact nin_none hD (g1.fz D0 z)
  have hm1 : D0 ∉ m1 := fun z => by
    exact nin_none hD (g1.notIn z).2
  have hH : H D0 = none := by
    cases q : H D0 with
    | none => rfl
    | some o => exact absurd hD (e1.t D0 (by rw [q]; simp))
  let PF : List D → St3 → Prop := fun acc M2 => if ownB = true then P (.obj M2.length) (M2 ++ [.lst acc]) else P (.lst acc) M2
  refine ⟨fun i n H' => n = items.length - i ∧ i ≤ items.length ∧ ∃ F' m' M' acc xs, Ext F1 m1 H1 F' m' H' ∧ Good X.K F' m' H' M' ∧ H' D0 = some (.lst xs) ∧ ¬ F' D0 ∧ D0 ∉ m' ∧ Rps X.K F' m' H' acc xs ∧
      Re X.K F' m' H' (wipe3 env (own.map (·.2))) (L2.wipe σ (own.map (·.2))) ∧ lcGo g tt te chk (wipe3 env (own.map (·.2))) PF (items.drop i) acc M',
    ⟨items.length, by simp, Nat.zero_le _, F1, m1, M1, [], [], Ext.laid hD, g1.laid hD, upd_same, hF1, hm1, Rps.nil, (r1.ext g1 (Ext.laid hD)).wipe _, by simpa using hgo⟩, ?_⟩
  rintro i n H2 ⟨rfl, hle, F2, m2, M2, acc, xs, e2, g2, hX, hF2, hm2, ra, r2, hgo2⟩
  by_cases hlt : i < items.length
  · obtain ⟨x, hx, hd⟩ := drop_get hlt
    rw [hd] at hgo2
    obtain ⟨hck, hg2⟩ := hgo2
    obtain ⟨hGo, hY⟩ := ok.item F2 m2 H2 M2 i x (e2.stz g1) g2 hck hx
    refine .inr ⟨hGo, fun H' => ∃ F' m' M' acc xs, Ext F1 m1 H1 F' m' H' ∧ Good X.K F' m' H' M' ∧ H' D0 = some (.lst xs) ∧ ¬ F' D0 ∧ D0 ∉ m' ∧ Rps X.K F' m' H' acc xs ∧
      Re X.K F' m' H' (wipe3 env (own.map (·.2))) (L2.wipe σ (own.map (·.2))) ∧ lcGo g tt te chk (wipe3 env (own.map (·.2))) PF (items.drop (i + 1)) acc M',
      fun H' z => ⟨items.length - (i + 1), by omega, rfl, by omega, z⟩, fun v H3 hy => ?_⟩
    obtain ⟨F3, e3, g3, rp3⟩ := hY v H3 hy
    obtain ⟨hX3, hF3, hm3⟩ := lc_frame (K := X.K) hX hF2 hm2 e3
    have ra3 := Rps.ext g2 e3 _ _ ra
    have r3 := r2.ext g2 e3
    refine ⟨⟨F3, m2, H3⟩, F3, m2, M2, _, x, _, ⟨Ext.refl _ _ _, g3⟩, r3, rp3, hg2, fun σ4 H4 F4 m4 M4 env4 hb4 e4 g4 r4 nw => ?_⟩
    refine ⟨wipe_back (nw.1.trans (wipe_length _ _)) hws nw.2, ⟨F4, m4, H4⟩, F4, m4, M4, env4, _, ⟨Ext.refl _ _ _, g4⟩, r4, hb4, fun b H5 M5 F5 m5 q5 e5 g5 => ?_⟩
    have e35 := e4.trans e5
    obtain ⟨hX5, hF5, hm5⟩ := lc_frame (K := X.K) hX3 hF3 hm3 e35
    have ra5 := Rps.ext g3 e35 _ _ ra3
    have r5 := r3.ext g3 e35
    cases b with
    | false =>
      rw [if_neg Bool.false_ne_true] at q5
      exact iteF ⟨F5, m5, M5, acc, xs, (e2.trans e3).trans e35, g5, hX5, hF5, hm5, ra5, r5, q5⟩
    | true =>
      rw [if_pos rfl] at q5
      refine iteT ⟨⟨F5, m5, H5⟩, F5, m5, M5, env4, _, ⟨Ext.refl _ _ _, g5⟩, r4.ext g4 e5, q5, fun y H6 ⟨d6, M6, F6, m6, ⟨hz, q6⟩, e6, g6, rp6⟩ => ?_⟩
      obtain ⟨hX6, hF6, hm6⟩ := lc_frame (K := X.K) hX5 hF5 hm5 e6
      have ra6 := Rps.ext g5 e6 _ _ ra5
      have r6 := r5.ext g5 e6
      refine ⟨xs, hX6, by rw [← ra6.length]; exact hz, ?_⟩
      obtain ⟨g7, s7⟩ := g6.own (o := .lst (xs ++ [y])) hF6 hm6 hX6
      have e06 := ((e2.trans e3).trans e35).trans e6
      have e7 : Ext F1 m1 H1 F6 m6 (upd H6 D0 (.lst (xs ++ [y]))) := by
        refine ⟨e06.f, e06.fn, e06.m_, fun b o hb hnm => ?_, fun b hb => ?_, fun b o u hb => by rw [upd_ne (ne_of_none hb hD)]; exact e06.z b o u hb⟩
        · rw [upd_ne (ne_of_none hb hD)]; exact e06.k b o hb hnm
        · by_cases q : b = D0
          · subst q; rw [upd_same]; simp
          · rw [upd_ne q]; exact e06.t b hb
      exact ⟨F6, m6, M6, acc ++ [d6], xs ++ [y], e7, g7, upd_same, hF6, hm6, (Rps.stb s7 _ _ ra6).append (Rps.one (Rp.stb s7 _ _ rp6)), r6.stb s7, q6⟩
  · have hi : i = items.length := by omega
    subst hi
    rw [List.drop_length] at hgo2
    obtain ⟨hck, hP⟩ := hgo2
    refine .inl ⟨ok.done F2 m2 H2 M2 (e2.stz g1) g2 hck, ?_⟩
    have e02 := e1.trans e2
    have hPF : PF acc M2 := hP
    cases ownB with
    | false =>
      have hPF : P (.lst acc) M2 := hPF
      have st : Stb F2 m2 H2 (fun a => F2 a ∨ a = D0) m2 H2 := ⟨fun _ _ h => h, fun _ _ _ h => h, fun _ h => ⟨.inl h, fun _ z => z, fun _ z => z⟩, [], by simp⟩
      refine ⟨.lst acc, M2, fun a => F2 a ∨ a = D0, m2, hPF, ⟨fun a h => .inl (e02.f a h), fun a h => ?_, e02.m_, e02.k, e02.t, e02.z⟩, ⟨g2.len, g2.nd, fun j a o h1 h2 => ?_, fun a h => ?_⟩, ?_⟩
      · rcases h with h | h
        · exact e02.fn a h
        · subst h; exact .inr hH
      · obtain ⟨h3, h4⟩ := g2.at_ j a o h1 h2
        have hne : a ≠ D0 := fun z => hm2 (by rw [← z]; exact List.mem_of_getElem? h1)
        refine ⟨fun z => z.elim h3 hne, ?_⟩
        cases o with
        | lst ds => obtain ⟨ys, a1, a2⟩ := h4; exact ⟨ys, a1, Rps.stb st _ _ a2⟩
        | dic ks ds => obtain ⟨kvs, a1, ak, a2⟩ := h4; exact ⟨kvs, a1, ak, Rps.stb st _ _ a2⟩
        | lck ks ds => obtain ⟨kvs, a1, ak, a2⟩ := h4; exact ⟨kvs, a1, ak, Rps.stb st _ _ a2⟩
      · rcases h with h | h
        · exact g2.fz a h
        · subst h; exact .inl ⟨xs, .inl hX⟩
      · simp only [Rp]
        exact ⟨D0, xs, rfl, .inl ⟨.inr rfl, .inl hX⟩, Rps.stb st _ _ ra⟩
    | true =>
      have hPF : P (.obj M2.length) (M2 ++ [.lst acc]) := hPF
      have st : Stb F2 m2 H2 F2 (m2 ++ [D0]) H2 := ⟨fun _ _ h => h, fun _ _ _ h => h, fun _ h => ⟨h, fun _ z => z, fun _ z => z⟩, [D0], rfl⟩
      obtain ⟨nu, en, hn⟩ := e02.m_
      refine ⟨.obj M2.length, M2 ++ [.lst acc], F2, m2 ++ [D0], hPF, ⟨e02.f, e02.fn, ⟨nu ++ [D0], by rw [en, List.append_assoc], fun a h => ?_⟩, e02.k, e02.t, e02.z⟩, ⟨by simp [g2.len], ?_, fun j a o h1 h2 => ?_, g2.fz⟩, ?_⟩
      · rcases List.mem_append.mp h with h | h
        · exact hn a h
        · simp at h; subst h; exact hH
      · rw [List.nodup_append]
        refine ⟨g2.nd, by simp, fun a ha b hb => ?_⟩
        simp at hb; subst hb; intro z; subst z; exact hm2 ha
      · by_cases hj : j < m2.length
        · rw [List.getElem?_append_left hj] at h1
          rw [List.getElem?_append_left (by rw [← g2.len]; exact hj)] at h2
          obtain ⟨h3, h4⟩ := g2.at_ j a o h1 h2
          refine ⟨h3, ?_⟩
          cases o with
          | lst ds => obtain ⟨ys, a1, a2⟩ := h4; exact ⟨ys, a1, Rps.stb st _ _ a2⟩
          | dic ks ds => obtain ⟨kvs, a1, ak, a2⟩ := h4; exact ⟨kvs, a1, ak, Rps.stb st _ _ a2⟩
          | lck ks ds => obtain ⟨kvs, a1, ak, a2⟩ := h4; exact ⟨kvs, a1, ak, Rps.stb st _ _ a2⟩
        · have hj' : j = m2.length := by
            have := (List.getElem?_eq_some_iff.mp h1).1
            simp at this; omega
          subst hj'
          rw [List.getElem?_append_right (Nat.le_refl _)] at h1
          rw [List.getElem?_append_right (by rw [g2.len]; exact Nat.le_refl _)] at h2
          simp at h1
          rw [g2.len] at h2; simp at h2
          subst h1 h2
          exact ⟨hF2, xs, hX, Rps.stb st _ _ ra⟩
      · simp only [Rp]
        exact ⟨D0, by rw [← g2.len]; simp, rfl⟩
theorem PDG.pgw {tg : Expr} {ws : List Nat} {g : TDG} (h : ∀ c', PDG X c' tg ws g) : PG X tg fun v σ H Q => ∃ c', (∃ (F : Addr → Prop) (m : List Addr) (M : St3) (env : Env3) (d : D) (P : Env3 → St3 → Prop),
    World X.K c' F m M H ∧ Re X.K F m H env σ ∧ Rp X.K F m H d v ∧ g d env M P ∧ ∀ σ' H' F' m' M' env', P env' M' → Ext F m H F' m' H' → Good X.K F' m' H' M' → Re X.K F' m' H' env' σ' → (σ'.length = σ.length ∧ ∀ i, i ∉ ws → σ'[i]? = σ[i]?) → Q σ' H') :=
  ⟨fun pins s σ H v u Q I rv ⟨c', z⟩ => (h c').pg.run pins s σ H v u Q I rv z⟩
theorem pts_w {ifs : List Expr} {tt : TDT} (h : ∀ c', PDTs X c' ifs tt) : PTs X ifs fun σ H Q => ∃ c', LT X.K c' tt σ H Q := ⟨fun pins s σ H Q I ⟨c', z⟩ => (h c').run.run pins s σ H Q I z⟩
theorem pe_w {e : Expr} {t : TD} (h : ∀ c', PD X c' e t) : PE X e fun σ H Q => ∃ c', LE X.K c' t σ H Q := ⟨fun pins s σ H Q I ⟨c', z⟩ => (h c').pe.run pins s σ H Q I z⟩
/-- a target's reading, whatever the context -/
def LGw (K : PySem.W.Frag) (ws : List Nat) (g : TDG) : TG := fun v σ H Q => ∃ c' : Ctx, (∃ (F : Addr → Prop) (m : List Addr) (M : St3) (env : Env3) (d : D) (P : Env3 → St3 → Prop),
    World K c' F m M H ∧ Re K F m H env σ ∧ Rp K F m H d v ∧ g d env M P ∧ ∀ σ' H' F' m' M' env', P env' M' → Ext F m H F' m' H' → Good K F' m' H' M' → Re K F' m' H' env' σ' → (σ'.length = σ.length ∧ ∀ i, i ∉ ws → σ'[i]? = σ[i]?) → Q σ' H')
def LTw (K : PySem.W.Frag) (t : TDT) : TT := fun σ H Q => ∃ c' : Ctx, LT K c' t σ H Q
def LEw (K : PySem.W.Frag) (t : TD) : TE := fun σ H Q => ∃ c' : Ctx, LE K c' t σ H Q
theorem pd_lc (ownB : Bool) (hc : X.calm = true) (hN : X.N.Nodup) (hi : PDI X c tg iter ti) (ok : BlkOk X.N X.env.scope scope own) (hws : ∀ i ∈ ws, i ∈ own.map (·.2))
    (hg : ∀ (c' : Ctx) (s : Shared) (H : Hp) (C : Addr) (cl : List (Str × Addr)) (fp : List Addr), PDG (X.blk s H scope (compEnvC scope cl C X.env) fp) c' tg ws g)
    (ht : ∀ (c' : Ctx) (s : Shared) (H : Hp) (C : Addr) (cl : List (Str × Addr)) (fp : List Addr), PDTs (X.blk s H scope (compEnvC scope cl C X.env) fp) c' ifs tt)
    (he : ∀ (c' : Ctx) (s : Shared) (H : Hp) (C : Addr) (cl : List (Str × Addr)) (fp : List Addr), PD (X.blk s H scope (compEnvC scope cl C X.env) fp) c' elt te)
    (hs : ∀ x, foldedSetIterable iter X.env x = pure x) : PD X c (.ListComp elt [⟨tg, iter, ifs, 0⟩] scope pos) (dLc ownB ti g tt te (own.map (·.2))) :=
  PD.of (pe_lc (wi := LI X.K c ti) (g := LGw X.K ws g) (tt := LTw X.K tt) (te := LEw X.K te) hc hN hi.pi ok (fun s H C cl fp => PDG.pgw fun c' => hg c' s H C cl fp) (fun s H C cl fp => pts_w fun c' => ht c' s H C cl fp) (fun s H C cl fp => pe_w fun c' => he c' s H C cl fp) hs)
    fun σ H F m M env P w r q => lc_lift ownB hws σ H F m M env P w r q
theorem tLc_mono {wi : TI} {K : PySem.W.Frag} {gt : TG} {tt' : TT} {te' : TE} {vs : List Nat} (hwi : ∀ σ H R R', (∀ J H', R J H' → R' J H') → wi σ H R → wi σ H R') {σ : L2.St} {H : Hp} {Q Q' : VK} (hq : ∀ v H', Q v H' → Q' v H') (h : tLc wi gt tt' te' vs σ H Q) : tLc wi gt tt' te' vs σ H Q' :=
  hwi σ H _ _ (fun J H1 z D0 hD => by
    obtain ⟨W, h0, h1⟩ := z D0 hD
    exact ⟨W, h0, fun i n H2 hw => (h1 i n H2 hw).imp (fun ⟨a, b⟩ => ⟨a, hq _ _ b⟩) fun x => x⟩) h
theorem pds_setLc (ownB : Bool) {i : Nat} {y : Str} {py spos : Pos} (hc : X.calm = true) (hN : X.N.Nodup) (hy : X.N[i]? = some y) (hyl : X.env.scope.names.lookup y = some .local)
    (hsw : swapsWith (.ListComp elt [⟨tg, iter, ifs, 0⟩] scope pos) (some (.Name y py)) spos.line X.env = pure true) (hi : PDI X c tg iter ti) (ok : BlkOk X.N X.env.scope scope own) (hws : ∀ i ∈ ws, i ∈ own.map (·.2))
    (hg : ∀ (c' : Ctx) (s : Shared) (H : Hp) (C : Addr) (cl : List (Str × Addr)) (fp : List Addr), PDG (X.blk s H scope (compEnvC scope cl C X.env) fp) c' tg ws g)
    (ht : ∀ (c' : Ctx) (s : Shared) (H : Hp) (C : Addr) (cl : List (Str × Addr)) (fp : List Addr), PDTs (X.blk s H scope (compEnvC scope cl C X.env) fp) c' ifs tt)
    (he : ∀ (c' : Ctx) (s : Shared) (H : Hp) (C : Addr) (cl : List (Str × Addr)) (fp : List Addr), PD (X.blk s H scope (compEnvC scope cl C X.env) fp) c' elt te)
    (hs : ∀ x, foldedSetIterable iter X.env x = pure x) : PDS X c (.Assign [.Name y py] (.ListComp elt [⟨tg, iter, ifs, 0⟩] scope pos) spos) (sAsg (dLc ownB ti g tt te (own.map (·.2))) (gtName i)) :=
  PDS.of (ps_setLc (wi := LI X.K c ti) (g := LGw X.K ws g) (tt := LTw X.K tt) (te := LEw X.K te) hc hN hy hyl hsw hi.pi ok (fun s H C cl fp => PDG.pgw fun c' => hg c' s H C cl fp) (fun s H C cl fp => pts_w fun c' => ht c' s H C cl fp) (fun s H C cl fp => pe_w fun c' => he c' s H C cl fp) hs)
    fun σ H F m M env Z w r q => by
      have z := lc_lift (X := X) (c := c) (ti := ti) (g := g) (tt := tt) (te := te) (ws := ws) (own := own) ownB hws σ H F m M env (fun d M1 => Z.nx (env.set i (some d)) M1) w r q
      exact tLc_mono (K := X.K) (fun σ H R R' hr ⟨F, m, M, env, P, w, r, ht, h⟩ => ⟨F, m, M, env, P, w, r, ht, fun J H' items chk M' F' m' p e g ok => hr _ _ (h J H' items chk M' F' m' p e g ok)⟩)
        (fun v H' ⟨d, M', F', m', p, e, g, rp⟩ => ⟨F', m', M', _, w.step e g, (r.ext w.good e).set rp, p⟩) z
end

/-! ### defs -/
/-- a def's promise, by data: the store, the arguments, what is wanted -/
abbrev DSp := St3 → List D → KD → Prop
def spD (K : PySem.W.Frag) (dl : DSp) (n : Nat) : Sp := fun vs H Q _ => vs.length = n ∧ ∃ (F : Addr → Prop) (m : List Addr) (M : St3) (ds : List D) (P : KD),
  Good K F m H M ∧ Rps K F m H ds vs ∧ dl M ds P ∧ ∀ v H', Fin K F m H P v H' → Q v H'
/-- as the hand layer's promise, no repr under way -/
structure FnG (P : Program) (w : PySem.World) (K : PySem.W.Frag) (mg : Str → Option Value) (base : Heap) (CX : CXT) (k : Nat)
    (f : Addr) (fd : FuncData) (ps : List Str) (sp : Sp) : Prop where
  len : ∀ vs H Q E, sp vs H Q E → vs.length = ps.length
  run : ∀ (A : Around) (outer : List Env) (s : Shared) (H : Hp) (args : Args)
      (us : List Value) (vs : List V) (Q : VK) (E : XK),
    Room k A → A.guards = some [] → Env0 P w K mg base A outer s H →
    BindsTo s fd args (ps.zip us) → Vals vs us → sp vs H Q E →
    codeAny (model P w) A (.call (.ref f) args) (CR CX outer P w H s Q E) s
theorem FnG.mono {P : Program} {w : PySem.World} {K : PySem.W.Frag} {mg : Str → Option Value} {base : Heap} {CX : CXT} {j k : Nat}
    {f : Addr} {fd : FuncData} {ps : List Str} {sp : Sp} (F : FnG P w K mg base CX j f fd ps sp) (h : j ≤ k) : FnG P w K mg base CX k f fd ps sp :=
  ⟨F.len, fun A outer s H args us vs Q E hr => F.run A outer s H args us vs Q E (hr.mono h)⟩

/-- a def of the text by its body -/
theorem fnG_of {CX : CXT} {P : Program} {w : PySem.World} {K : PySem.W.Frag} {mg : Str → Option Value} {base : Heap} {k : Nat} {f : Addr}
    {name qual : Str} {params : Arguments} {body : List Stmt} {scope : Scope} {dV kV doc pm cdv ct oc : Value} {an od : Option Addr}
    {osl : Array (Option Value)} {N ps : List Str} {sp : Sp}
    (lk : K.lookup f = some ⟨oc, od, .func (PySem.W.fnOf name qual params body scope dV kV doc pm an cdv ct), osl⟩)
    (hcd : PySem.W.codeIn K cdv qual = true) (S : FnScope N ps scope) (len : ∀ vs H Q E, sp vs H Q E → vs.length = ps.length)
    (hbody : ∀ (A : Around) (outer : List Env) (s : Shared) (H : Hp) (vs : List V) (Q : VK) (E : XK),
      Room k (A.deeper (envOfC qual scope s.heap.objs.size f cdv)) → (A.deeper (envOfC qual scope s.heap.objs.size f cdv)).guards = some [] → sp vs H Q E →
      ∃ t, PSs (cxOf CX P w K mg base N qual scope f cdv A outer s H E) body t ∧ t { nx := fun _ H' => Q .non H', rt := Q } (start N vs) H) :
    FnG P w K mg base CX (k + 1) f (PySem.W.fnOf name qual params body scope dV kV doc pm an cdv ct) ps sp := by
  refine ⟨len, fun A outer s H args us vs Q E hr hG e0 hb rv hsp => ?_⟩
  have KX : K.In s.heap := e0.mod.kin.keeps fun b o e => (e0.bs b o e).1
  have lim : s.heap.NoLimit :=
    e0.mod.nolimit.keeps fun b o e => (e0.bs b o e).1
  have hkind : ∀ y ∈ ps.zip us,
      scope.names.lookup y.1 = some .local ∨
        (scope.names.lookup y.1 = some .cell ∧
          ((cellsFrom (s.heap.objs.size + 1) scope.names []).lookup y.1).isSome = true) := by
    rintro ⟨n, v⟩ hy
    rcases S.par n (List.of_mem_zip hy).1 with q | q
    · exact .inl q
    · exact .inr ⟨q, PySem.W.cellsFrom_some _ _ _ (.inl q)⟩
  refine codeAny_call_function hr.depth (KX _ _ lk) rfl S.co S.gen rfl
    (PySem.W.codeRec_of KX hcd) (hb _ _ _ _ ?_)
  refine wpAny_newFunctionEnv_cells S.kind hkind
    fun env he s1 x => ?_
  subst he
  refine ⟨lim.keeps x.toInCall.keep, codeAny_func ?_⟩
  obtain ⟨t, ht, hq⟩ :=
    hbody A outer s H vs Q E (hr.deeper _) hG hsp
  have I := inv_start (CX := CX) (E := E) S hr.hd e0
    (len _ _ _ _ hsp) rv x
  refine wpAny_mono (ht.run [] s1 (start N vs) H _ I hq)
    (fun fl s' hs => ?_) fun e s' hs => hs
  cases fl with
  | ret u =>
    obtain ⟨v, σ', H', J, r2, q⟩ := hs
    exact ⟨v, H', J.os, J.bare, J.base, J.hok, r2, q⟩
  | next =>
    obtain ⟨σ', H', J, q⟩ := hs
    exact ⟨.non, H', J.os, J.bare, J.base, J.hok, rfl, q⟩
  | brk => obtain ⟨_, _, _, q⟩ := hs; exact False.elim q
  | cont => obtain ⟨_, _, _, q⟩ := hs; exact False.elim q

/-- a call of it, by data -/
theorem opD_fn {X : Cx} {k : Nat} {f : Addr} {fd : FuncData} {ps : List Str} {dl : DSp} {n : Nat} (G : FnG X.prog X.w X.K X.mg X.base CX0 k f fd ps (spD X.K dl n)) (hr : Room k X.A) (hG : X.A.guards = some [])
    (hb : Binds X.K fd ps []) (hn : n = ps.length) : OpD X (fun us => call (.ref f) us) fun M ds P => ds.length = n ∧ dl M ds P := by
  intro pins s σ H F m M us vs ds P I rv g rp ⟨hl, q⟩
  have hsp : spD X.K dl n vs H (Fin X.K F m H P) E0 := ⟨by rw [← rp.length]; exact hl, F, m, M, ds, P, g, rp, q, fun _ _ z => z⟩
  have hlen : (us ++ []).length = ps.length := by rw [List.append_nil, ← rv.length]; exact G.len _ _ _ _ hsp
  have hbt := hb s us I.kIn hlen
  rw [List.append_nil] at hbt
  refine wpAny_call (codeAny_mono (G.run X.A X.stack s H ⟨us, []⟩ us vs _ E0 hr hG I.env0 hbt rv hsp) fun r s' hq => ?_)
  cases r with
  | error e => exact False.elim hq
  | ok fl =>
    cases fl with
    | ret u => exact I.after hq
    | next => exact False.elim hq
    | brk => exact False.elim hq
    | cont => exact False.elim hq
/-- keywords: the parameters' order by places -/
def pickL {α : Type} (z : α) (perm : List Nat) (xs : List α) : List α := perm.map fun i => xs.getD i z
structure KwB (K : PySem.W.Frag) (fd : FuncData) (ps ks : List Str) (perm : List Nat) : Prop where
  to : ∀ (s : Shared) (us ws : List Value), K.In s.heap → us.length + ws.length = ps.length → ws.length = ks.length →
    BindsTo s fd ⟨us, ks.zip ws⟩ (ps.zip (pickL .none perm (us ++ ws)))
  len : perm.length = ps.length
theorem vals_pick {vs : List V} {us : List Value} (r : Vals vs us) : ∀ perm : List Nat, Vals (pickL .non perm vs) (pickL .none perm us)
  | [] => .nil
  | i :: perm => by
    refine .cons ?_ (vals_pick r perm)
    show RelV (vs.getD i .non) (us.getD i .none)
    rw [List.getD_eq_getElem?_getD, List.getD_eq_getElem?_getD]
    cases q : vs[i]? with
    | none => rw [r.none_of q]; rfl
    | some x =>
      obtain ⟨u, h1, h2⟩ := r.get q
      rw [h1]; exact h2
theorem rps_pick {K : PySem.W.Frag} {F : Addr → Prop} {m : List Addr} {H : Hp} {ds : List D} {vs : List V} (r : Rps K F m H ds vs) : ∀ perm : List Nat, Rps K F m H (pickL .non perm ds) (pickL .non perm vs)
  | [] => Rps.nil
  | i :: perm => by
    refine Rps.cons ?_ (rps_pick r perm)
    show Rp K F m H (ds.getD i .non) (vs.getD i .non)
    rw [List.getD_eq_getElem?_getD, List.getD_eq_getElem?_getD]
    cases q : ds[i]? with
    | none =>
      have : vs[i]? = none := List.getElem?_eq_none (by rw [← r.length]; exact List.getElem?_eq_none_iff.mp q)
      rw [this]; simp [Rp]
    | some d =>
      obtain ⟨x, h1, h2⟩ := r.get q
      rw [h1]; exact h2
theorem opD_fnk {X : Cx} {k : Nat} {f : Addr} {fd : FuncData} {ps ks : List Str} {perm : List Nat} {dl : DSp} {n : Nat} (G : FnG X.prog X.w X.K X.mg X.base CX0 k f fd ps (spD X.K dl n)) (hr : Room k X.A) (hG : X.A.guards = some [])
    (hb : KwB X.K fd ps ks perm) (hn : n = ps.length) {pins : List (Addr × Obj)} {s : Shared} {σ : L2.St} {H : Hp} {F : Addr → Prop} {m : List Addr} {M : St3} {us ws : List Value} {vs zs : List V} {ds es : List D} {P : KD}
    (I : Inv X pins σ H s) (rv : Vals vs us) (rz : Vals zs ws) (g : Good X.K F m H M) (rp : Rps X.K F m H ds vs) (rq : Rps X.K F m H es zs) (hl : ds.length + es.length = n) (hk : es.length = ks.length)
    (q : dl M (pickL .non perm (ds ++ es)) P) : wpAny (model X.prog X.w) X.A (call (.ref f) us (ks.zip ws)) (EP X pins σ (Fin X.K F m H P)) X.xe s := by
  have r2 := vals_pick (rv.append rz) perm
  have p2 := rps_pick (rp.append rq) perm
  have hsp : spD X.K dl n (pickL .non perm (vs ++ zs)) H (Fin X.K F m H P) E0 := ⟨by simp [pickL, hb.len, hn], F, m, M, _, P, g, p2, q, fun _ _ z => z⟩
  have hbt := hb.to s us ws I.kIn (by rw [← rv.length, ← rz.length, ← rp.length, ← rq.length, hl, hn]) (by rw [← rz.length, ← rq.length, hk])
  refine wpAny_call (codeAny_mono (G.run X.A X.stack s H ⟨us, ks.zip ws⟩ _ _ _ E0 hr hG I.env0 hbt r2 hsp) fun r s' hq => ?_)
  cases r with
  | error e => exact False.elim hq
  | ok fl =>
    cases fl with
    | ret u => exact I.after hq
    | next => exact False.elim hq
    | brk => exact False.elim hq
    | cont => exact False.elim hq
section
variable {X : Cx} {c : Ctx} {k : Nat} {f : Addr} {fd : FuncData} {ps : List Str} {dl : DSp} {n : Nat} {x : Str} {p pos : Pos} {e : Expr} {es : List Expr} {t : TDA}
def dCall (n : Nat) (dl : DSp) (t : TDA) : TD := fun env M P => t env M fun ds M1 => ds.length = n ∧ dl M1 ds P
theorem pd_call (G : FnG X.prog X.w X.K X.mg X.base CX0 k f fd ps (spD X.K dl n)) (hr : Room k X.A) (hG : X.A.guards = some []) (hg : Gl X x) (hm : X.mg x = some (.ref f)) (hk : PySem.W.keepIn X.K (.ref f) = true)
    (hb : Binds X.K fd ps []) (hn : n = ps.length) (ha : PDA X c (e :: es) t) (hdb : (x == ("__debug__" : Str)) = false) (he : starEach (e :: es) X.env = (false, eval e X.env) :: starEach es X.env) (hpl : (backTo pos (starEach es X.env)).any (·.1) = false) :
    PD X c (.Call (.Name x p) (e :: es) [] pos) (dCall n dl t) := by
  refine ⟨fun pins s σ H F m M env P I w r h => ?_⟩
  refine wpAny_Call_Name_kw (ld_glob I hg hm ?_ hdb)
  refine PySem.W.callWith_K (h₀ := X.base) I.ok.mod.kin hk (thn (ha.run pos pins s σ H F m M env _ I w r h) fun us s1 ⟨vs, H1, I1, rv, ds, M1, F1, m1, q, e1, g1, rp⟩ => ⟨I1.kIn, ?_⟩) he hpl
  exact thn (opD_fn G hr hG hb hn pins s1 σ H1 F1 m1 M1 us vs ds P I1 rv g1 rp q) fun _ _ z => ep_step z (fin_step (pins := pins) (σ := σ) e1)
theorem pd_call0 (G : FnG X.prog X.w X.K X.mg X.base CX0 k f fd ps (spD X.K dl n)) (hr : Room k X.A) (hG : X.A.guards = some []) (hg : Gl X x) (hm : X.mg x = some (.ref f)) (hk : PySem.W.keepIn X.K (.ref f) = true)
    (hb : Binds X.K fd ps []) (hn : n = ps.length) (hdb : (x == ("__debug__" : Str)) = false) : PD X c (.Call (.Name x p) [] [] pos) (dCall n dl dNil) := by
  refine ⟨fun pins s σ H F m M env P I w r h => ?_⟩
  refine wpAny_Call_Name_kw (ld_glob I hg hm ?_ hdb)
  exact PySem.W.callWith_K0 I.kIn hk (opD_fn G hr hG hb hn pins s σ H F m M [] [] [] P I .nil w.good Rps.nil h)
/-- keywords' values -/
structure PDK (X : Cx) (c : Ctx) (kws : List Keyword) (t : TDA) : Prop where
  run : ∀ (pos : Pos) (pins : List (Addr × Obj)) (s : Shared) (σ : L2.St) (H : Hp) (F : Addr → Prop) (m : List Addr) (M : St3) (env : Env3) (P : List D → St3 → Prop),
    Inv X pins σ H s → World X.K c F m M H → Re X.K F m H env σ → t env M P →
    wpAny (model X.prog X.w) X.A (evalAll ((backToKw pos (keywordEach kws X.env)).map (·.2))) (AP X pins σ fun vs H' => ∃ ds M' F' m', P ds M' ∧ Ext F m H F' m' H' ∧ Good X.K F' m' H' M' ∧ Rps X.K F' m' H' ds vs) X.xe s
theorem pdk_nil : PDK X c [] dNil := ⟨fun _ _ s σ H F m M env P I w r h => wpAny_evalAll_nil ⟨[], H, I, .nil, [], M, F, m, h, Ext.refl _ _ _, w.good, Rps.nil⟩⟩
theorem pdk_cons {te : TD} {nm : Option Str} {kpos : Pos} {kws : List Keyword} (ha : PD X c e te) (hr : PDK X c kws t) : PDK X c (⟨nm, e, kpos⟩ :: kws) (dCons te t) := by
  refine ⟨fun pos pins s σ H F m M env P I w r h => ?_⟩
  show wpAny _ _ (evalAll ((do
    let v ← eval e X.env
    standAt pos
    pure v) :: (backToKw pos (keywordEach kws X.env)).map (·.2))) _ _ s
  refine wpAny_evalAll_cons (wpAny_bind (thn (ha.run pins s σ H F m M env _ I w r h) fun u s1 ⟨x, H1, I1, r1, d, M1, F1, m1, q1, e1, g1, rp1⟩ => wpAny_bind (wpAny_standAt (wpAny_pure ?_))))
  refine thn (hr.run pos pins s1 σ H1 F1 m1 M1 env _ I1 (w.step e1 g1) (r.ext w.good e1) q1) fun us s2 ⟨xs, H2, I2, r2, ds, M2, F2, m2, q2, e2, g2, rp2⟩ => ?_
  exact ⟨x :: xs, H2, I2, .cons r1 r2, d :: ds, M2, F2, m2, q2, e1.trans e2, g2, Rps.cons (Rp.ext g1 e2 d x rp1) rp2⟩
def dCallK (n nk : Nat) (perm : List Nat) (dl : DSp) (t tk : TDA) : TD := fun env M P => t env M fun ds M1 => tk env M1 fun es M2 => (ds.length + es.length = n ∧ es.length = nk) ∧ dl M2 (pickL .non perm (ds ++ es)) P
theorem pd_callK {kws : List Keyword} {tk : TDA} {ks : List Str} {perm : List Nat} (G : FnG X.prog X.w X.K X.mg X.base CX0 k f fd ps (spD X.K dl n)) (hr : Room k X.A) (hG : X.A.guards = some []) (hg : Gl X x) (hm : X.mg x = some (.ref f)) (hk : PySem.W.keepIn X.K (.ref f) = true)
    (hb : KwB X.K fd ps ks perm) (hn : n = ps.length) (ha : PDA X c (e :: es) t) (hkw : PDK X c kws tk) (hall : (backToKw pos (keywordEach kws X.env)).all (·.1.isSome) = true) (hks : (backToKw pos (keywordEach kws X.env)).filterMap (·.1) = ks)
    (hdb : (x == ("__debug__" : Str)) = false) (he : starEach (e :: es) X.env = (false, eval e X.env) :: starEach es X.env)
    (hpl : ((backTo pos (starEach (e :: es) X.env)).any (·.1) || (backToKw pos (keywordEach kws X.env)).any (·.1.isNone)) = false) :
    PD X c (.Call (.Name x p) (e :: es) kws pos) (dCallK n ks.length perm dl t tk) := by
  refine ⟨fun pins s σ H F m M env P I w r h => ?_⟩
  refine wpAny_Call_Name_kw (ld_glob I hg hm ?_ hdb)
  refine PySem.W.callWith_KW (h₀ := X.base) I.ok.mod.kin hk hall (thn (ha.run pos pins s σ H F m M env _ I w r h) fun us s1 ⟨vs, H1, I1, rv, ds, M1, F1, m1, q, e1, g1, rp⟩ => ?_) hpl he
  refine thn (hkw.run pos pins s1 σ H1 F1 m1 M1 env _ I1 (w.step e1 g1) (r.ext w.good e1) q) fun ws s2 ⟨zs, H2, I2, rz, es2, M2, F2, m2, ⟨⟨hl, hl2⟩, q2⟩, e2, g2, rq⟩ => ⟨I2.kIn, ?_⟩
  rw [hks]
  exact thn (opD_fnk G hr hG hb hn I2 rv rz g2 (Rps.ext g1 e2 _ _ rp) rq hl hl2 q2) fun _ _ z => ep_step z (fin_step (pins := pins) (σ := σ) (e1.trans e2))
theorem pd_callK0 {kws : List Keyword} {tk : TDA} {ks : List Str} {perm : List Nat} (G : FnG X.prog X.w X.K X.mg X.base CX0 k f fd ps (spD X.K dl n)) (hr : Room k X.A) (hG : X.A.guards = some []) (hg : Gl X x) (hm : X.mg x = some (.ref f)) (hk : PySem.W.keepIn X.K (.ref f) = true)
    (hb : KwB X.K fd ps ks perm) (hn : n = ps.length) (hkw : PDK X c kws tk) (hall : (backToKw pos (keywordEach kws X.env)).all (·.1.isSome) = true) (hks : (backToKw pos (keywordEach kws X.env)).filterMap (·.1) = ks)
    (hdb : (x == ("__debug__" : Str)) = false) (hpl : ((backTo pos (starEach [] X.env)).any (·.1) || (backToKw pos (keywordEach kws X.env)).any (·.1.isNone)) = false) :
    PD X c (.Call (.Name x p) [] kws pos) (dCallK n ks.length perm dl dNil tk) := by
  refine ⟨fun pins s σ H F m M env P I w r h => ?_⟩
  refine wpAny_Call_Name_kw (ld_glob I hg hm ?_ hdb)
  refine PySem.W.callWith_KW0 (h₀ := X.base) I.ok.mod.kin hk hall (thn (hkw.run pos pins s σ H F m M env _ I w r h) fun ws s2 ⟨zs, H2, I2, rz, es2, M2, F2, m2, ⟨⟨hl, hl2⟩, q2⟩, e2, g2, rq⟩ => ⟨I2.kIn, ?_⟩) hpl
  rw [hks]
  exact thn (opD_fnk G hr hG hb hn I2 .nil rz g2 Rps.nil rq hl hl2 q2) fun _ _ z => ep_step z (fin_step (pins := pins) (σ := σ) e2)
/-- a built-in by its name -/
def dBlt (dl : DSp) (t : TDA) : TD := fun env M P => t env M fun ds M1 => dl M1 ds P
theorem callR_of {f : Value} (ho : OpD X (fun us => call f us) dl) : CallR X f fun vs H Q => ∃ (F : Addr → Prop) (m : List Addr) (M : St3) (ds : List D) (P : KD), Good X.K F m H M ∧ Rps X.K F m H ds vs ∧ dl M ds P ∧ ∀ v H', Fin X.K F m H P v H' → Q v H' := by
  intro pins s σ H vs us Q I rv ⟨F, m, M, ds, P, g, rp, q, h⟩
  exact thn (ho pins s σ H F m M us vs ds P I rv g rp q) fun _ _ z => ep_step z h
theorem pd_blt {id : String} (ho : OpD X (fun us => call (.builtin id) us) dl) (hg : Gl X x) (hm : X.mg x = none) (hv : bootBuiltins x = some (.builtin id)) (ha : PDA X c (e :: es) t) (hn : x ≠ "__name__") (hdb : (x == ("__debug__" : Str)) = false)
    (he : starEach (e :: es) X.env = (false, eval e X.env) :: starEach es X.env) (hpl : (backTo pos (starEach es X.env)).any (·.1) = false) : PD X c (.Call (.Name x p) (e :: es) [] pos) (dBlt dl t) :=
  PD.of (pe_callB (callR_of ho) hg hm hv ha.pa hn hdb he hpl) fun σ H F m M env P w r q => ⟨F, m, M, env, _, w, r, q, fun vs H' ds M' F' m' q1 e g rp => ⟨F', m', M', ds, P, g, rp, q1, fin_step (pins := []) (σ := σ) e⟩⟩
theorem pd_bty {T : String} (ho : OpD X (fun us => call (.type T) us) dl) (hg : Gl X x) (hm : X.mg x = none) (hv : bootBuiltins x = some (.type T)) (ha : PDA X c (e :: es) t) (hn : x ≠ "__name__") (hdb : (x == ("__debug__" : Str)) = false)
    (he : starEach (e :: es) X.env = (false, eval e X.env) :: starEach es X.env) (hpl : (backTo pos (starEach es X.env)).any (·.1) = false) : PD X c (.Call (.Name x p) (e :: es) [] pos) (dBlt dl t) :=
  PD.of (pe_callTy (callR_of ho) hg hm hv ha.pa hn hdb he hpl) fun σ H F m M env P w r q => ⟨F, m, M, env, _, w, r, q, fun vs H' ds M' F' m' q1 e g rp => ⟨F', m', M', ds, P, g, rp, q1, fin_step (pins := []) (σ := σ) e⟩⟩
end
end L3
namespace L3
open PySem PySem.Spec PyProof.Rows L2

/-! ### data that is nothing but data -/
mutual
def D.toP : D → PyData
  | .non => .none | .bl b => .bool b | .int i => .int i | .str x => .str x
  | .tup ds => .tuple (D.toPs ds) | .lst ds => .list (D.toPs ds) | _ => .none
def D.toPs : List D → List PyData
  | [] => []
  | d :: ds => d.toP :: D.toPs ds
end
mutual
/-- no shared object, no dict, nothing raw within -/
def D.pu : D → Bool
  | .non | .bl _ | .int _ | .str _ => true
  | .tup ds | .lst ds => D.pus ds
  | _ => false
def D.pus : List D → Bool
  | [] => true
  | d :: ds => d.pu && D.pus ds
end
theorem toPs_map : ∀ ds : List D, D.toPs ds = ds.map D.toP
  | [] => by simp [D.toPs]
  | d :: ds => by simp [D.toPs, toPs_map ds]
theorem pus_all : ∀ ds : List D, D.pus ds = ds.all D.pu
  | [] => by simp [D.pus]
  | d :: ds => by simp [D.pus, pus_all ds]
section
variable {K : PySem.W.Frag} {F : Addr → Prop} {m : List Addr} {H : Hp}
mutual
theorem Rp.dp : ∀ (d : D) (v : V), Rp K F m H d v → d.pu = true → Dp K H v d.toP
  | .non, v, h, _ => by simp only [Rp] at h; subst h; simp only [D.toP]; exact .non
  | .bl b, v, h, _ => by simp only [Rp] at h; subst h; simp only [D.toP]; exact .bl b
  | .int i, v, h, _ => by simp only [Rp] at h; subst h; simp only [D.toP]; exact .int i
  | .str x, v, h, _ => by simp only [Rp] at h; obtain ⟨rfl, _⟩ := h; simp only [D.toP]; exact .str x
  | .tup ds, v, h, p => by
    simp only [Rp] at h
    obtain ⟨a, xs, rfl, h1, h2⟩ := h
    simp only [D.toP]
    exact .tup h1.sq (Rps.dp ds xs h2 (by simpa only [D.pu] using p))
  | .lst ds, v, h, p => by
    simp only [Rp] at h
    obtain ⟨a, xs, rfl, h1, h2⟩ := h
    simp only [D.toP]
    exact .lst h1.sq (Rps.dp ds xs h2 (by simpa only [D.pu] using p))
  | .dic _ _, _, _, p => by simp [D.pu] at p
  | .obj _, _, _, p => by simp [D.pu] at p
  | .raw _, _, _, p => by simp [D.pu] at p
theorem Rps.dp : ∀ (ds : List D) (vs : List V), Rps K F m H ds vs → D.pus ds = true → DpAll K H vs (D.toPs ds)
  | [], vs, h, _ => by simp only [Rps] at h; subst h; simp only [D.toPs]; exact .nil
  | d :: ds, vs, h, p => by
    simp only [Rps] at h
    obtain ⟨x, r, rfl, h1, h2⟩ := h
    simp only [D.pus, Bool.and_eq_true] at p
    simp only [D.toPs]
    exact .cons (Rp.dp d x h1 p.1) (Rps.dp ds r h2 p.2)
end
theorem RpW.dp {d : D} {v : V} (h : RpW K F m H d v) (p : d.pu = true) : Dp K H v d.toP := by
  cases d with
  | lst ds =>
    obtain ⟨a, xs, rfl, h1, h2⟩ := h
    simp only [D.toP]
    exact .lst h1 (Rps.dp ds xs h2 (by simpa only [D.pu] using p))
  | dic _ _ => simp [D.pu] at p
  | non => exact Rp.dp (F := F) (m := m) _ _ h p
  | bl _ => exact Rp.dp (F := F) (m := m) _ _ h p
  | int _ => exact Rp.dp (F := F) (m := m) _ _ h p
  | str _ => exact Rp.dp (F := F) (m := m) _ _ h p
  | tup _ => exact Rp.dp (F := F) (m := m) _ _ h p
  | obj _ => simp [D.pu] at p
  | raw _ => simp [D.pu] at p
end
mutual
theorem toP_plain : ∀ d : D, (d.toP).plain = true
  | .non => by simp [D.toP, PyData.plain]
  | .bl _ => by simp [D.toP, PyData.plain]
  | .int _ => by simp [D.toP, PyData.plain]
  | .str _ => by simp [D.toP, PyData.plain]
  | .tup ds => by simp only [D.toP, PyData.plain]; exact toPs_plain ds
  | .lst ds => by simp only [D.toP, PyData.plain]; exact toPs_plain ds
  | .dic _ _ => by simp [D.toP, PyData.plain]
  | .obj _ => by simp [D.toP, PyData.plain]
  | .raw _ => by simp [D.toP, PyData.plain]
theorem toPs_plain : ∀ ds : List D, PyData.plainAll (D.toPs ds) = true
  | [] => by simp [D.toPs, PyData.plainAll]
  | d :: ds => by simp [D.toPs, PyData.plainAll, toP_plain d, toPs_plain ds]
end
mutual
theorem toP_noDict : ∀ d : D, (d.toP).hasDict = false
  | .non => by simp [D.toP, PyData.hasDict]
  | .bl _ => by simp [D.toP, PyData.hasDict]
  | .int _ => by simp [D.toP, PyData.hasDict]
  | .str _ => by simp [D.toP, PyData.hasDict]
  | .tup ds => by simp only [D.toP, PyData.hasDict]; exact toPs_noDict ds
  | .lst ds => by simp only [D.toP, PyData.hasDict]; exact toPs_noDict ds
  | .dic _ _ => by simp [D.toP, PyData.hasDict]
  | .obj _ => by simp [D.toP, PyData.hasDict]
  | .raw _ => by simp [D.toP, PyData.hasDict]
theorem toPs_noDict : ∀ ds : List D, PyData.hasDictAll (D.toPs ds) = false
  | [] => by simp [D.toPs, PyData.hasDictAll]
  | d :: ds => by simp [D.toPs, PyData.hasDictAll, toP_noDict d, toPs_noDict ds]
end

/-! ### the rules' own forms -/
abbrev bin (op : Operator) : List Value → Sem Value := bin2 (binaryOp op)
abbrev cmp (op : CmpOp) : List Value → Sem Value := bin2 (compareOp op)
section
variable {X : Cx} {c : Ctx}
theorem opD2 {f : Value → Value → Sem Value} {dl : DSp} (h : ∀ (pins : List (Addr × Obj)) (s : Shared) (σ : L2.St) (H : Hp) (F : Addr → Prop) (m : List Addr) (M : St3) (u v : Value) (x y : V) (a b : D) (P : KD),
    Inv X pins σ H s → RelV x u → RelV y v → Good X.K F m H M → Rp X.K F m H a x → Rp X.K F m H b y → RpW X.K F m H (vw M a) x → RpW X.K F m H (vw M b) y → dl M [a, b] P → wpAny (model X.prog X.w) X.A (f u v) (EP X pins σ (Fin X.K F m H P)) X.xe s)
    (h2 : ∀ M ds P, dl M ds P → ∃ a b, ds = [a, b]) : OpD X (bin2 f) dl := by
  intro pins s σ H F m M us vs ds P I rv g rp q
  obtain ⟨a, b, rfl⟩ := h2 M ds P q
  obtain ⟨x, y, rfl, p1, p2⟩ := rps2 rp
  obtain ⟨u, v, rfl, r1, r2⟩ := vals2 rv
  exact h pins s σ H F m M u v x y a b P I r1 r2 g p1 p2 (g.look p1) (g.look p2) q
theorem opD1 {f : Value} {dl : DSp} (h : ∀ (pins : List (Addr × Obj)) (s : Shared) (σ : L2.St) (H : Hp) (F : Addr → Prop) (m : List Addr) (M : St3) (u : Value) (x : V) (a : D) (P : KD),
    Inv X pins σ H s → RelV x u → Good X.K F m H M → Rp X.K F m H a x → RpW X.K F m H (vw M a) x → dl M [a] P → wpAny (model X.prog X.w) X.A (call f [u]) (EP X pins σ (Fin X.K F m H P)) X.xe s)
    (h2 : ∀ M ds P, dl M ds P → ∃ a, ds = [a]) : OpD X (fun us => call f us) dl := by
  intro pins s σ H F m M us vs ds P I rv g rp q
  obtain ⟨a, rfl⟩ := h2 M ds P q
  obtain ⟨x, rfl, p1⟩ := rps1 rp
  obtain ⟨u, rfl, r1⟩ := vals1 rv
  exact h pins s σ H F m M u x a P I r1 g p1 (g.look p1) q

/-! ### sums, products -/
theorem lstR {pins : List (Addr × Obj)} {σ : L2.St} {s : Shared} {H : Hp} {l : Addr} {xs : List V} (I : Inv X pins σ H s) (h : Rd H l (.lst xs)) : xs.length ≤ sizeLine ∧ ∃ (its : List Value) (n : Nat), Vals xs its ∧ xs.length = its.length ∧ s.heap.get? l = some { cls := .type "list", data := .seq its.toArray n } := by
  obtain ⟨z, its, n, r, e⟩ := h.ok I.hok
  exact ⟨z, its, n, r, r.length, e⟩
def rCatR (K : PySem.W.Frag) : R2 := fun x y H Q => ∃ l b xs zs, x = .ref l ∧ y = .ref b ∧ SqL K H l xs ∧ SqL K H b zs ∧ xs.length + zs.length ≤ sizeLine ∧ ∀ p, H p = none → Q (.ref p) (upd H p (.lst (xs ++ zs)))
theorem op_catR : OpR X (binaryOp .Add) (rCatR X.K) := by
  intro pins s σ H x y v u Q I rx ry h
  obtain ⟨l, b, xs, zs, rfl, rfl, hH, hB, hz, q⟩ := h
  cases rx
  cases ry
  obtain ⟨its, r, ⟨⟨cls, dd, data, sl⟩, n, ho, hc, hd, hs⟩, _⟩ := I.list hH
  obtain ⟨its2, r2, ⟨⟨cls2, dd2, data2, sl2⟩, n2, ho2, hc2, hd2, hs2⟩, _⟩ := I.list hB
  simp only at hc hd hs hc2 hd2 hs2
  subst hc hd hs hc2 hd2 hs2
  have hl := r.length
  have hl2 := r2.length
  have ea : its.toArray ++ its2.toArray = (its ++ its2).toArray := by simp
  refine concat_meets ⟨_, ho, rfl⟩ ⟨_, ho2, rfl⟩ noFill_list_add seq_list_add PySem.F.slot_list_add PySem.F.entry_list_add (PySem.F.args_list_add_2 _ _) (list_addW l b its.toArray its2.toArray n n2 none none sl sl2 (by rw [List.size_toArray, List.size_toArray]; omega)) ⟨ho, ho2, ?_⟩
  rw [ea]
  exact ⟨.ref _, _, I.lnew (t' := s.toks) (r.append r2) (by rw [List.length_append]; omega), rfl, q _ I.fresh⟩
def oAdd : DSp := fun M ds P => ∃ a b, ds = [a, b] ∧ match vw M a, vw M b with
  | .int i, .int j => P (.int (i + j)) M
  | .str x, .str y => x.length + y.length ≤ sizeLine ∧ P (.str (x ++ y)) M
  | .tup x, .tup y => x.length + y.length ≤ sizeLine ∧ P (.tup (x ++ y)) M
  | .lst x, .lst y => x.length + y.length ≤ sizeLine ∧ P (.lst (x ++ y)) M
  | _, _ => False
theorem len_app (x y : Str) : (x ++ y).length = x.length + y.length := strLen_append x y
theorem op_addD : OpD X (bin .Add) oAdd := opD2 (fun pins s σ H F m M u v x y a b P I r1 r2 g p1 p2 w1 w2 q => by
  obtain ⟨a', b', e, q⟩ := q
  injection e with e1 e2; injection e2 with e2 _; subst e1 e2
  revert q w1 w2
  cases vw M a <;> cases vw M b <;> intro w1 w2 q <;> try (exact False.elim q)
  · rename_i i j
    simp only [RpW, Rp] at w1 w2; subst w1 w2
    exact op_add pins s σ H _ _ u v _ I r1 r2 ⟨i, j, rfl, rfl, Fin.now g q (by simp [Rp])⟩
  · rename_i i j
    simp only [RpW, Rp] at w1 w2
    obtain ⟨rfl, h1⟩ := w1
    obtain ⟨rfl, h2⟩ := w2
    exact op_add_str pins s σ H _ _ u v _ I r1 r2 ⟨i, j, rfl, rfl, q.1, Fin.now g q.2 (by simp only [Rp]; exact ⟨trivial, by rw [len_app]; exact q.1⟩)⟩
  · rename_i i j
    have h1 := w1; have h2 := w2
    simp only [RpW, Rp] at h1 h2
    obtain ⟨a1, xs, rfl, hx, hrx⟩ := h1
    obtain ⟨a2, ys, rfl, hy, hry⟩ := h2
    cases r1
    cases r2
    obtain ⟨its, v1, t1, _⟩ := I.tuple hx.sq
    obtain ⟨its2, v2, t2, _⟩ := I.tuple hy.sq
    have z1 := v1.length
    have z2 := v2.length
    have y1 := hrx.length
    have y2 := hry.length
    by_cases he : its = []
    · subst he
      have : i = [] := List.eq_nil_of_length_eq_zero (by rw [y1, z1]; rfl)
      subst this
      exact cat_tup0 t1 t2 ⟨.ref a2, H, I, rfl, Fin.now g q.2 (by rw [List.nil_append]; exact w2)⟩
    · refine HT.cat_tup t1 t2 he (fun z => ?_) (fun z => ?_) (by rw [← z1, ← z2, ← y1, ← y2]; exact q.1)
      · subst z
        have : j = [] := List.eq_nil_of_length_eq_zero (by rw [y2, z2]; rfl)
        subst this
        exact ⟨.ref a1, H, I, rfl, Fin.now g q.2 (by rw [List.append_nil]; exact w1)⟩
      · exact ep_tup (its := its ++ its2) I g (v1.append v2) (by rw [List.length_append, ← y1, ← y2]; exact q.1) (hrx.append hry) q.2
  · rename_i i j
    obtain ⟨a1, xs, rfl, hx, hrx⟩ := w1
    obtain ⟨a2, ys, rfl, hy, hry⟩ := w2
    exact op_catR pins s σ H _ _ u v _ I r1 r2 ⟨a1, a2, xs, ys, rfl, rfl, hx, hy, by rw [← hrx.length, ← hry.length]; exact q.1, fun p hp => fin_lst g hp (hrx.append hry) q.2⟩)
  fun M ds P ⟨a, b, e, _⟩ => ⟨a, b, e⟩
/-- ints alone -/
def oInt (C : Int → Int → Prop) (f : Int → Int → Int) : DSp := fun M ds P => ∃ i j, ds = [.int i, .int j] ∧ C i j ∧ P (.int (f i j)) M
theorem op_intD {op : Operator} {C : Int → Int → Prop} {f : Int → Int → Int} (h : OpR X (binaryOp op) (rI C fun i j => .int (f i j))) : OpD X (bin op) (oInt C f) := opD2 (fun pins s σ H F m M u v x y a b P I r1 r2 g p1 p2 w1 w2 q => by
  obtain ⟨i, j, e, hc, q⟩ := q
  injection e with e1 e2; injection e2 with e2 _; subst e1 e2
  simp only [Rp] at p1 p2; subst p1 p2
  exact h pins s σ H _ _ u v _ I r1 r2 ⟨i, j, rfl, rfl, hc, Fin.now g q (by simp [Rp])⟩) fun M ds P ⟨i, j, e, _⟩ => ⟨_, _, e⟩
theorem op_subD : OpD X (bin .Sub) (oInt (fun _ _ => True) fun i j => i - j) := op_intD fun pins s σ H x y v u Q I rx ry ⟨i, j, e1, e2, _, q⟩ => op_sub pins s σ H x y v u Q I rx ry ⟨i, j, e1, e2, q⟩
theorem op_fdivD : OpD X (bin .FloorDiv) (oInt CDivW fun i j => i / j) := op_intD op_fdivW
theorem op_modD : OpD X (bin .Mod) (oInt (fun _ j => 0 < j) fun i j => i % j) := op_intD op_mod
theorem op_powD : OpD X (bin .Pow) (oInt CPow fun i j => i ^ j.toNat) := op_intD op_pow
theorem op_mulI : OpD X (bin .Mult) (oInt CMulW fun i j => i * j) := op_intD op_mulW
def repS (x : Str) (k : Int) : Str := if k < 1 then Str.empty else if (k == 1 || x.length == 0) = true then x else ⟨(List.replicate k.toNat x.cps).foldl (· ++ ·) #[]⟩
def oMulS : DSp := fun M ds P => ∃ x k, ds = [.str x, .int k] ∧ x.length ≤ 1000 ∧ 0 ≤ k ∧ k ≤ 1000 ∧ (repS x k).length ≤ sizeLine ∧ P (.str (repS x k)) M
theorem op_mulS : OpD X (bin .Mult) oMulS := opD2 (fun pins s σ H F m M u v x y a b P I r1 r2 g p1 p2 w1 w2 q => by
  obtain ⟨z, k, e, h1, h2, h3, h4, q⟩ := q
  injection e with e1 e2; injection e2 with e2 _; subst e1 e2
  simp only [Rp] at p1 p2; obtain ⟨rfl, _⟩ := p1; subst p2
  obtain ⟨t, rfl⟩ := r1
  obtain ⟨t2, rfl⟩ := r2
  have fin : Fin X.K F m H P (.str (repS z k)) H := Fin.now g q (by simp [Rp, h4])
  refine PySem.P.mul_str (by rw [decide_eq_false (by omega), decide_eq_false (by omega)]; rfl) (fun h5 _ => ?_) (fun h5 _ => ?_) ?_
  · have : ((z.length : Nat) : Int) ≤ 1000 := by omega
    have : (1000 : Int) ≤ (2 ^ 63 - 1) / k := by
      rw [Int.le_ediv_iff_mul_le (by omega)]
      have : 1000 * k ≤ 1000 * 1000 := by omega
      omega
    omega
  · have : z.length * k.toNat ≤ 1000 * 1000 := Nat.mul_le_mul h1 (by omega)
    unfold Builtin.Str.tooLong
    rw [sizeLine_eq]
    exact decide_eq_false (by omega)
  · unfold repS at fin h4
    split
    · rename_i h5; rw [if_pos h5] at fin h4
      exact ⟨h4, ⟨.str _, H, I.tok _, ⟨_, rfl⟩, fin⟩⟩
    · rename_i h5; rw [if_neg h5] at fin h4
      split
      · rename_i h6; rw [if_pos h6] at fin
        exact ⟨.str _, H, I, ⟨_, rfl⟩, fin⟩
      · rename_i h6; rw [if_neg h6] at fin h4
        exact ⟨h4, ⟨.str _, H, I.tok _, ⟨_, rfl⟩, fin⟩⟩) fun M ds P ⟨x, k, e, _⟩ => ⟨_, _, e⟩
def oMulT : DSp := fun M ds P => ∃ xs k, ds = [.tup xs, .int k] ∧ ((xs ≠ [] ∧ 1 ≤ k ∧ k ≤ 1000 ∧ xs.length ≤ 1000) ∧ P (.tup (List.replicate k.toNat xs).flatten) M)
def oMul : DSp := fun M ds P => oInt CMulW (fun i j => i * j) M ds P ∨ oMulT M ds P ∨ oMulS M ds P
theorem tuple_mul1 (l : Addr) (items : Array Value) (n : Nat) (sl : Array (Option Value)) (dd : Option Addr) (u : Tok) (hne : items.isEmpty = false) :
    Meets (Builtin.«tuple.__mul__» ⟨[.ref l, .int 1 u], []⟩) (fun _ R s => s.heap.get? l = some { cls := .type "tuple", dict := dd, data := .seq items n, slots := sl } ∧ R (.ok (.ret (Value.ref l))) s) := .of_wp fun prog w A R s h => by
  obtain ⟨hp, g, d, tk, os⟩ := s; obtain ⟨hl, h⟩ := h
  have f1 := AutoSeq1.idx_int
  have c1 : (items.isEmpty || (1 : Int) == 1) = true := by simp
  wp_walk using wpAny_loadPart' hl
  repeat (first
    | (refine wpAny_ite_true (decide_eq_true c1) ?_; wp_walk using wpAny_loadPart' hl)
    | (exact ⟨_, rfl, h⟩))
theorem Rps.flat {K : PySem.W.Frag} {F : Addr → Prop} {m : List Addr} {H : Hp} {ds : List D} {xs : List V} (h : Rps K F m H ds xs) : ∀ k : Nat, Rps K F m H (List.replicate k ds).flatten (List.replicate k xs).flatten
  | 0 => by simp [Rps]
  | k + 1 => by rw [List.replicate_succ, List.replicate_succ, List.flatten_cons, List.flatten_cons]; exact h.append (Rps.flat h k)
theorem op_mulD : OpD X (bin .Mult) oMul := OpD.or op_mulI (OpD.or (show OpD X (bin .Mult) oMulT from opD2 (fun pins s σ H F m M u v x y a b P I r1 r2 g p1 p2 w1 w2 q => by
  obtain ⟨xs, k, e, ⟨h1, h2, h3, h4⟩, q⟩ := q
  injection e with e1 e2; injection e2 with e2 _; subst e1 e2
  have p0 := p1
  simp only [Rp] at p1 p2; subst p2
  obtain ⟨l, vs, rfl, ht, hr⟩ := p1
  cases r1
  obtain ⟨t, rfl⟩ := r2
  obtain ⟨its, r, ⟨⟨cls, dd, data, sl⟩, ho, hc, n, hd⟩, hs⟩ := I.tuple ht.sq
  simp only at hc hd
  subst hc hd
  have hz : its.length = xs.length := by rw [hr.length, r.length]
  have hn : its ≠ [] := fun e => h1 (List.eq_nil_of_length_eq_zero (by rw [← hz, e]; rfl))
  have hi : its.toArray.isEmpty = false := by cases its with | nil => exact absurd rfl hn | cons _ _ => rfl
  have sz : its.toArray.size = xs.length := by rw [List.size_toArray, hz]
  by_cases hk : k = 1
  · subst hk
    refine wpAny_binaryOp_repeat_ref (T := "tuple") (U := "int") (by decide) ⟨_, ho, rfl⟩ (fun s' => typeIs_int s' 1 t) noFill_tuple_mul PySem.F.fills_int_mul PySem.F.slot_int_rmul repeat_tuple PySem.F.slot_int_index.lookup ?_
    refine call_meets PySem.F.slot_int_rmul (typeIs_int s 1 t) PySem.F.entry_int_rmul (PySem.F.args_int_rmul_2 _ _) (int_rmul_tuple 1 t l its.toArray n dd sl) ⟨ho, rfl, ⟨_, ho, rfl⟩, ?_⟩
    refine call_meets PySem.F.slot_tuple_mul ⟨_, ho, rfl⟩ PySem.F.entry_tuple_mul (PySem.F.args_tuple_mul_2 _ _) (tuple_mul1 l its.toArray n sl dd t hi) ⟨ho, ?_⟩
    have e1 : (List.replicate (1 : Int).toNat xs).flatten = xs := by simp
    rw [e1] at q
    exact ⟨.ref l, H, I, rfl, Fin.now g q p0⟩
  · have k2 : 2 ≤ k := by omega
    have flen : (List.replicate k.toNat its).flatten.length ≤ sizeLine := by
      rw [PyProof.Rows.lm_len_rep_flat, hz, sizeLine_eq]
      have : k.toNat * xs.length ≤ 1000 * 1000 := Nat.mul_le_mul (by omega) h4
      omega
    have hm : ((its.toArray.size : Nat) : Int) * k ≤ 1000000 := by
      rw [sz]
      have : ((xs.length : Nat) : Int) * k ≤ 1000 * k := Int.mul_le_mul_of_nonneg_right (by omega) (by omega)
      omega
    have c0 : (decide (k < -(2 ^ 63)) || decide (k ≥ 2 ^ 63)) = false := by rw [decide_eq_false (by omega), decide_eq_false (by omega)]; rfl
    have c1 : (its.toArray.isEmpty || k == 1) = false := by rw [hi, Bool.false_or]; exact beq_eq_false_iff_ne.mpr hk
    have c2 : (decide (k ≤ 0) || its.toArray.isEmpty) = false := by rw [hi, Bool.or_false]; exact decide_eq_false (by omega)
    have c4 : Builtin.Tuple.tupleTooMany (((its.toArray.size : Nat) : Int) * k) = false := by unfold Builtin.Tuple.tupleTooMany; rw [sizeLine_eq]; exact decide_eq_false (by omega)
    refine wpAny_binaryOp_repeat_ref (T := "tuple") (U := "int") (by decide) ⟨_, ho, rfl⟩ (fun s' => typeIs_int s' k t) noFill_tuple_mul PySem.F.fills_int_mul PySem.F.slot_int_rmul repeat_tuple PySem.F.slot_int_index.lookup ?_
    refine call_meets PySem.F.slot_int_rmul (typeIs_int s k t) PySem.F.entry_int_rmul (PySem.F.args_int_rmul_2 _ _) (int_rmul_tuple k t l its.toArray n dd sl) ⟨ho, rfl, ⟨_, ho, rfl⟩, ?_⟩
    refine call_meets PySem.F.slot_tuple_mul ⟨_, ho, rfl⟩ PySem.F.entry_tuple_mul (PySem.F.args_tuple_mul_2 _ _) (tuple_mulW l its.toArray n dd sl k t c0 c1 c2 (by omega) c4 (by rw [size_rep, List.size_toArray]; exact flen)) ⟨ho, ?_⟩
    rw [size_rep]
    exact ep_tup (its := (List.replicate k.toNat its).flatten) (t' := s.toks) I g (r.rep k.toNat) (by rw [PyProof.Rows.lm_len_rep_flat, ← r.length.symm, ← PyProof.Rows.lm_len_rep_flat]; exact flen) (hr.flat _) q)
  fun M ds P ⟨xs, k, e, _⟩ => ⟨_, _, e⟩) op_mulS)
def oNeg : DSp := fun M ds P => ∃ i, ds = [.int i] ∧ P (.int (-i)) M
theorem op_negD : OpD X (fun us => match us with | [a] => unaryOp .USub a | _ => pure .none) oNeg := by
  intro pins s σ H F m M us vs ds P I rv g rp ⟨i, e, q⟩
  subst e
  obtain ⟨x, rfl, p1⟩ := rps1 rp
  obtain ⟨u, rfl, r1⟩ := vals1 rv
  simp only [Rp] at p1; subst p1
  exact un_neg pins s σ H _ u _ I r1 ⟨i, rfl, Fin.now g q (by simp [Rp])⟩

/-! ### == and != -/
def dDep (d : D) : Nat := d.toP.depth
/-- when two values may be compared here, and what comes -/
def eqD (a b : D) (r : Bool) : Prop := (a.pu = true ∧ b.pu = true ∧ (dDep a ≤ 64 ∨ dDep b ≤ 64) ∧ r = PyData.eqv a.toP b.toP) ∨
  (∃ ds, a = .tup ds ∧ b = .tup [] ∧ r = ds.isEmpty) ∨ (∃ ds, a = .lst ds ∧ b = .lst [] ∧ r = ds.isEmpty)
def oEq : DSp := fun M ds P => ∃ a b r, ds = [a, b] ∧ eqD (vw M a) (vw M b) r ∧ P (.bl r) M
def oNe : DSp := fun M ds P => ∃ a b r, ds = [a, b] ∧ eqD (vw M a) (vw M b) r ∧ P (.bl (!r)) M
theorem fin_b {pins : List (Addr × Obj)} {σ : L2.St} {H : Hp} {s : Shared} {F : Addr → Prop} {m : List Addr} {M : St3} {P : KD} {b : Bool} (I : Inv X pins σ H s) (g : Good X.K F m H M) (q : P (.bl b) M) : EP X pins σ (Fin X.K F m H P) (.bool b) s :=
  ⟨.bl b, H, I, rfl, Fin.now g q (by simp [Rp])⟩
theorem min_le64 {a b : Nat} (h : a ≤ 64 ∨ b ≤ 64) : min a b ≤ 64 := by omega
theorem op_eqDD (hu : X.A.units + 64 < cLine) : OpD X (cmp .Eq) oEq := opD2 (fun pins s σ H F m M u v x y a b P I r1 r2 g p1 p2 w1 w2 q => by
  obtain ⟨a', b', r, e, hr, q⟩ := q
  injection e with e1 e2; injection e2 with e2 _; subst e1 e2
  rcases hr with ⟨h1, h2, h3, rfl⟩ | ⟨ds, e1, e2, rfl⟩ | ⟨ds, e1, e2, rfl⟩
  · obtain ⟨as, k1⟩ := Dp.reads I _ _ _ (RpW.dp w1 h1) r1
    obtain ⟨bs, k2⟩ := Dp.reads I _ _ _ (RpW.dp w2 h2) r2
    have hm := min_le64 h3
    exact SeqAt.eq_plain k1 k2 (toP_plain _) (toP_plain _) (by unfold dDep at hm; omega) (fin_b I g q)
  · rw [e1] at w1; rw [e2] at w2
    simp only [RpW, Rp] at w1 w2
    obtain ⟨l1, xs, rfl, hx, hrx⟩ := w1
    obtain ⟨l2, ys, rfl, hy, hry⟩ := w2
    obtain rfl := Rps.nil_inv hry
    cases r1; cases r2
    obtain ⟨its, ra, ta, _⟩ := I.tuple hx.sq
    obtain ⟨its2, rb, tb, _⟩ := I.tuple hy.sq
    cases rb
    refine SeqAt.eq_tupleAt (e := fun _ => true) (show s.heap.IsTuple l1 its.toArray from ta) (show s.heap.IsTuple l2 _ from tb) (by omega) (fun j h1 h2 => absurd h2 (by simp)) ?_
    have : ((List.range (min its.toArray.size ([] : List Value).toArray.size)).all (fun _ => true) && its.toArray.size == ([] : List Value).toArray.size) = ds.isEmpty := by
      have hl : ds.length = its.length := hrx.length.trans ra.length
      cases ds <;> cases its <;> simp_all
    rw [this]
    exact fin_b I g q
  · rw [e1] at w1; rw [e2] at w2
    obtain ⟨l1, xs, rfl, hx, hrx⟩ := w1
    obtain ⟨l2, ys, rfl, hy, hry⟩ := w2
    obtain rfl := Rps.nil_inv hry
    cases r1; cases r2
    obtain ⟨its, ra, ta, _⟩ := I.list hx
    obtain ⟨its2, rb, tb, _⟩ := I.list hy
    cases rb
    have hl : ds.length = its.length := hrx.length.trans ra.length
    by_cases h0 : its = []
    · subst h0
      have : ds.isEmpty = true := by cases ds <;> simp_all
      rw [this] at q
      exact SeqAt.eq_listAt (e := fun _ => true) ta.isList tb.isList rfl (by omega) (fun j h1 h2 => absurd h2 (by simp)) (fin_b I g q)
    · have : ds.isEmpty = false := by
        cases ds with
        | nil => exact absurd (List.eq_nil_of_length_eq_zero hl.symm) h0
        | cons _ _ => rfl
      rw [this] at q
      refine SeqAt.eq_list_lengthsAt ta.isList tb.isList ?_ (by omega) (fin_b I g q)
      cases its <;> simp_all)
  fun M ds P ⟨a, b, r, e, _⟩ => ⟨a, b, e⟩
theorem op_neDD (hu : X.A.units + 64 < cLine) : OpD X (cmp .NotEq) oNe := opD2 (fun pins s σ H F m M u v x y a b P I r1 r2 g p1 p2 w1 w2 q => by
  obtain ⟨a', b', r, e, hr, q⟩ := q
  injection e with e1 e2; injection e2 with e2 _; subst e1 e2
  rcases hr with ⟨h1, h2, h3, rfl⟩ | ⟨ds, e1, e2, rfl⟩ | ⟨ds, e1, e2, rfl⟩
  · obtain ⟨as, k1⟩ := Dp.reads I _ _ _ (RpW.dp w1 h1) r1
    obtain ⟨bs, k2⟩ := Dp.reads I _ _ _ (RpW.dp w2 h2) r2
    have hm := min_le64 h3
    exact SeqAt.ne_plain k1 k2 (toP_plain _) (toP_plain _) (by unfold dDep at hm; omega) (fin_b I g q)
  · rw [e1] at w1; rw [e2] at w2
    simp only [RpW, Rp] at w1 w2
    obtain ⟨l1, xs, rfl, hx, hrx⟩ := w1
    obtain ⟨l2, ys, rfl, hy, hry⟩ := w2
    obtain rfl := Rps.nil_inv hry
    cases r1; cases r2
    obtain ⟨its, ra, ta, _⟩ := I.tuple hx.sq
    obtain ⟨its2, rb, tb, _⟩ := I.tuple hy.sq
    cases rb
    have : (!((List.range (min its.toArray.size ([] : List Value).toArray.size)).all (fun _ => true) && its.toArray.size == ([] : List Value).toArray.size)) = !ds.isEmpty := by
      have hl : ds.length = its.length := hrx.length.trans ra.length
      cases ds <;> cases its <;> simp_all
    exact SeqAt.RcNeAt.tuples (e := fun _ => true) (show s.heap.IsTuple l1 its.toArray from ta) (show s.heap.IsTuple l2 _ from tb) (by omega) (fun j h1 h2 => absurd h2 (by simp)) _ _ _ _ (by rw [this]; exact fin_b I g q)
  · rw [e1] at w1; rw [e2] at w2
    obtain ⟨l1, xs, rfl, hx, hrx⟩ := w1
    obtain ⟨l2, ys, rfl, hy, hry⟩ := w2
    obtain rfl := Rps.nil_inv hry
    cases r1; cases r2
    obtain ⟨its, ra, ta, _⟩ := I.list hx
    obtain ⟨its2, rb, tb, _⟩ := I.list hy
    cases rb
    have hl : ds.length = its.length := hrx.length.trans ra.length
    by_cases h0 : its = []
    · subst h0
      have : ds.isEmpty = true := by cases ds <;> simp_all
      rw [this] at q
      exact SeqAt.RcNeAt.lists (e := fun _ => true) ta.isList tb.isList rfl (by omega) (fun j h1 h2 => absurd h2 (by simp)) _ _ _ _ (fin_b I g q)
    · have : ds.isEmpty = false := by
        cases ds with
        | nil => exact absurd (List.eq_nil_of_length_eq_zero hl.symm) h0
        | cons _ _ => rfl
      rw [this] at q
      exact SeqAt.RcNeAt.lists_lengths ta.isList tb.isList (by cases its <;> simp_all) (by omega) _ _ _ _ (fin_b I g q))
  fun M ds P ⟨a, b, r, e, _⟩ => ⟨a, b, e⟩
end
end L3
namespace L3
open PySem PySem.Spec PyProof.Rows L2
section
variable {X : Cx} {c : Ctx}
theorem l2inj {a b c d : D} (h : [a, b] = [c, d]) : a = c ∧ b = d := by injection h with h1 h2; injection h2 with h2 _; exact ⟨h1, h2⟩
theorem l1inj {a b : D} (h : [a] = [b]) : a = b := by injection h
/-! ### order -/
inductive Ord4 | lt | le | gt | ge
def Ord4.op : Ord4 → CmpOp | .lt => .Lt | .le => .LtE | .gt => .Gt | .ge => .GtE
def Ord4.iB (o : Ord4) (i j : Int) : Bool := match o with | .lt => decide (i < j) | .le => decide (i ≤ j) | .gt => decide (j < i) | .ge => decide (j ≤ i)
def Ord4.dB (o : Ord4) (a b : PyData) : Bool := match o with | .lt => PySem.W.dataLt a b | .le => !PySem.W.dataLt b a | .gt => PySem.W.dataLt b a | .ge => !PySem.W.dataLt a b
def ordC (a b : D) : Prop := a.pu = true ∧ b.pu = true ∧ PySem.W.alike a.toP b.toP = true ∧ a.toP ≠ .none ∧ (dDep a ≤ 64 ∨ dDep b ≤ 64)
/-- the answer of an order, from a < b's or b < a's -/
def oOrd (o : Ord4) : DSp := fun M ds P => ∃ a b, ds = [a, b] ∧ match vw M a, vw M b with
  | .int i, .int j => P (.bl (o.iB i j)) M
  | a, b => ordC a b ∧ P (.bl (o.dB a.toP b.toP)) M
theorem op_ordD (o : Ord4) (hu : X.A.units + 64 < cLine) : OpD X (cmp o.op) (oOrd o) := opD2 (fun pins s σ H F m M u v x y a b P I r1 r2 g p1 p2 w1 w2 q => by
  obtain ⟨a', b', e, q⟩ := q
  obtain ⟨rfl, rfl⟩ := l2inj e
  have gen : ∀ {a b : D}, RpW X.K F m H a x → RpW X.K F m H b y → (ordC a b ∧ P (.bl (o.dB a.toP b.toP)) M) → wpAny (model X.prog X.w) X.A (compareOp o.op u v) (EP X pins σ (Fin X.K F m H P)) X.xe s := fun {a b} w1 w2 q => by
    obtain ⟨⟨h1, h2, h3, h4, h5⟩, q⟩ := q
    obtain ⟨as, k1⟩ := Dp.reads I _ _ _ (RpW.dp w1 h1) r1
    obtain ⟨bs, k2⟩ := Dp.reads I _ _ _ (RpW.dp w2 h2) r2
    have hm := min_le64 h5
    unfold dDep at hm
    cases o with
    | lt => exact PySem.W.lt_data k1 k2 h3 h4 (by omega) (fin_b I g q)
    | le => exact PySem.W.le_data k1 k2 h3 h4 (by omega) (fin_b I g q)
    | gt => exact PySem.W.gt_data k1 k2 h3 h4 (by omega) (fin_b I g q)
    | ge => exact PySem.W.ge_data k1 k2 h3 h4 (by omega) (fin_b I g q)
  revert q w1 w2
  cases ea : vw M a <;> cases eb : vw M b <;> intro w1 w2 q <;> first
    | exact gen w1 w2 q
    | (rename_i i j
       simp only [RpW, Rp] at w1 w2; subst w1 w2
       cases o with
       | lt => exact op_lt pins s σ H _ _ u v _ I r1 r2 ⟨i, j, rfl, rfl, Fin.now g q (by simp [Rp, Ord4.iB])⟩
       | le => exact op_le pins s σ H _ _ u v _ I r1 r2 ⟨i, j, rfl, rfl, Fin.now g q (by simp [Rp, Ord4.iB])⟩
       | gt => exact op_gt pins s σ H _ _ u v _ I r1 r2 ⟨i, j, rfl, rfl, Fin.now g q (by simp [Rp, Ord4.iB])⟩
       | ge => exact op_ge pins s σ H _ _ u v _ I r1 r2 ⟨i, j, rfl, rfl, Fin.now g q (by simp [Rp, Ord4.iB])⟩))
  fun M ds P ⟨a, b, e, _⟩ => ⟨a, b, e⟩

/-! ### is None, is True -/
def isNonD : D → Bool | .non => true | _ => false
theorem rp_non_iff {K : PySem.W.Frag} {F : Addr → Prop} {m : List Addr} {H : Hp} {d : D} {v : V} (h : Rp K F m H d v) (hr : ∀ w, d ≠ .raw w) : decide (v = V.non) = isNonD d := by
  cases d <;> simp only [Rp] at h <;> first
    | (subst h; rfl)
    | (obtain ⟨rfl, _⟩ := h; rfl)
    | (obtain ⟨_, _, rfl, _⟩ := h; rfl)
    | (obtain ⟨_, _, rfl⟩ := h; rfl)
    | exact absurd rfl (hr _)
def notRaw : D → Bool | .raw _ => false | _ => true
def oIsD (neg : Bool) : DSp := fun M ds P => (∃ a, ds = [a, .non] ∧ notRaw a = true ∧ P (.bl (neg != isNonD a)) M) ∨ (∃ a b : Bool, ds = [.bl a, .bl b] ∧ P (.bl (neg != decide (a = b))) M)
theorem op_isD : OpD X (cmp .Is) (oIsD false) := opD2 (fun pins s σ H F m M u v x y a b P I r1 r2 g p1 p2 w1 w2 q => by
  rcases q with ⟨a', e, hr, q⟩ | ⟨a', b', e, q⟩
  · obtain ⟨rfl, rfl⟩ := l2inj e
    have p2' := p2
    simp only [Rp] at p2'; subst p2'
    refine op_isN pins s σ H _ _ u v _ I r1 r2 ⟨rfl, Fin.now g q ?_⟩
    rw [rp_non_iff p1 (fun w z => by subst z; simp [notRaw] at hr)]; simp [Rp]
  · obtain ⟨rfl, rfl⟩ := l2inj e
    simp only [Rp] at p1 p2; subst p1 p2
    exact op_isBl pins s σ H _ _ u v _ I r1 r2 ⟨a', b', rfl, rfl, Fin.now g q (by simp [Rp])⟩)
  fun M ds P h => h.elim (fun ⟨a, e, _⟩ => ⟨_, _, e⟩) fun ⟨a, b, e, _⟩ => ⟨_, _, e⟩
theorem op_isNotD : OpD X (cmp .IsNot) (oIsD true) := opD2 (fun pins s σ H F m M u v x y a b P I r1 r2 g p1 p2 w1 w2 q => by
  rcases q with ⟨a', e, hr, q⟩ | ⟨a', b', e, q⟩
  · obtain ⟨rfl, rfl⟩ := l2inj e
    have p2' := p2
    simp only [Rp] at p2'; subst p2'
    refine op_notN pins s σ H _ _ u v _ I r1 r2 ⟨rfl, Fin.now g q ?_⟩
    rw [rp_non_iff p1 (fun w z => by subst z; simp [notRaw] at hr)]
    cases isNonD a <;> simp [Rp]
  · obtain ⟨rfl, rfl⟩ := l2inj e
    simp only [Rp] at p1 p2; subst p1 p2
    refine op_notBl pins s σ H _ _ u v _ I r1 r2 ⟨a', b', rfl, rfl, Fin.now g q ?_⟩
    cases decide (a' = b') <;> simp [Rp])
  fun M ds P h => h.elim (fun ⟨a, e, _⟩ => ⟨_, _, e⟩) fun ⟨a, b, e, _⟩ => ⟨_, _, e⟩

/-! ### in -/
def keyD : D → Option Key
  | .int i => some (.inl i)
  | .str x => some (.inr x)
  | _ => none
def memK (k : Key) (ks : List Key) : Bool := ks.any fun q => decide (q = k)
def inStr (x z : Str) : Bool := !(Builtin.Str.occurrences z x 0 z.length 1).isEmpty
def oIn (neg : Bool) : DSp := fun M ds P => ∃ a b, ds = [a, b] ∧ match vw M b with
  | .str z => ∃ x, a = .str x ∧ P (.bl (neg != inStr x z)) M
  | .tup xs => (a.pu = true ∧ D.pus xs = true ∧ dDep a ≤ 64) ∧ P (.bl (neg != (D.toPs xs).any fun y => PyData.eqv y a.toP)) M
  | .lst xs => (a.pu = true ∧ D.pus xs = true ∧ dDep a ≤ 64) ∧ P (.bl (neg != (D.toPs xs).any fun y => PyData.eqv y a.toP)) M
  | .dic ks _ => ∃ k, keyD a = some k ∧ P (.bl (neg != memK k ks)) M
  | _ => False
theorem valV_mem {kvs : List (Key × V)} {k : Key} : (valV kvs k).isSome = memK k (kvs.map (·.1)) := by
  rw [← valV_any, memK, List.any_map]; rfl
theorem rp_key {K : PySem.W.Frag} {F : Addr → Prop} {m : List Addr} {H : Hp} {d : D} {v : V} {k : Key} (h : Rp K F m H d v) (e : keyD d = some k) : v = kV k := by
  cases d <;> simp only [keyD] at e <;> try (cases e)
  · simp only [Rp] at h; subst h; rfl
  · simp only [Rp] at h; obtain ⟨rfl, _⟩ := h; rfl
theorem op_inD (hu : X.A.units + 80 < cLine) : OpD X (cmp .In) (oIn false) := opD2 (fun pins s σ H F m M u v x y a b P I r1 r2 g p1 p2 w1 w2 q => by
  obtain ⟨a', b', e, q⟩ := q
  obtain ⟨rfl, rfl⟩ := l2inj e
  revert q w2
  cases vw M b <;> intro w2 q <;> try (exact False.elim q)
  · rename_i z
    obtain ⟨x', rfl, q⟩ := q
    simp only [RpW, Rp] at w2 p1
    obtain ⟨rfl, _⟩ := w2
    obtain ⟨rfl, _⟩ := p1
    exact op_in_str pins s σ H _ _ u v _ I r1 r2 ⟨x', z, rfl, rfl, Fin.now g q (by simp [Rp, inStr])⟩
  · rename_i xs
    obtain ⟨⟨h1, h2, h3⟩, q⟩ := q
    obtain ⟨as, k1⟩ := Dp.reads I _ _ _ (Rp.dp _ _ p1 h1) r1
    obtain ⟨bs, k2⟩ := Dp.reads I _ _ _ (RpW.dp w2 (by simpa only [D.pu] using h2)) r2
    simp only [D.toP] at k2
    unfold dDep at h3
    exact SeqAt.in_tuple_data k2 k1 (toPs_plain _) (toP_plain _) (by omega) (fin_b I g (by simpa using q))
  · rename_i xs
    obtain ⟨⟨h1, h2, h3⟩, q⟩ := q
    obtain ⟨as, k1⟩ := Dp.reads I _ _ _ (Rp.dp _ _ p1 h1) r1
    obtain ⟨bs, k2⟩ := Dp.reads I _ _ _ (RpW.dp w2 (by simpa only [D.pu] using h2)) r2
    simp only [D.toP] at k2
    unfold dDep at h3
    exact SeqAt.in_list_data k2 k1 (toPs_plain _) (toP_plain _) (by omega) (fin_b I g (by simpa using q))
  · rename_i ks es
    obtain ⟨k, hk, q⟩ := q
    obtain rfl := rp_key p1 hk
    obtain ⟨l, kvs, rfl, h1, rfl, h3⟩ := w2
    cases r2
    exact d_in (by omega) I (.inl ⟨kvs, k, h1, rfl, rfl⟩) r1 fun s' I' => fin_b I' g (by rw [valV_mem]; simpa using q))
  fun M ds P ⟨a, b, e, _⟩ => ⟨a, b, e⟩
theorem op_notInD (hu : X.A.units + 80 < cLine) : OpD X (cmp .NotIn) (oIn true) := opD2 (fun pins s σ H F m M u v x y a b P I r1 r2 g p1 p2 w1 w2 q => by
  obtain ⟨a', b', e, q⟩ := q
  obtain ⟨rfl, rfl⟩ := l2inj e
  revert q w2
  cases vw M b <;> intro w2 q <;> try (exact False.elim q)
  · rename_i z
    obtain ⟨x', rfl, q⟩ := q
    simp only [RpW, Rp] at w2 p1
    obtain ⟨rfl, _⟩ := w2
    obtain ⟨rfl, _⟩ := p1
    exact op_notin_str pins s σ H _ _ u v _ I r1 r2 ⟨x', z, rfl, rfl, Fin.now g q (by simp [Rp, inStr])⟩
  · rename_i xs
    obtain ⟨⟨h1, h2, h3⟩, q⟩ := q
    obtain ⟨as, k1⟩ := Dp.reads I _ _ _ (Rp.dp _ _ p1 h1) r1
    obtain ⟨bs, k2⟩ := Dp.reads I _ _ _ (RpW.dp w2 (by simpa only [D.pu] using h2)) r2
    simp only [D.toP] at k2
    unfold dDep at h3
    exact SeqAt.notIn_tuple_data k2 k1 (toPs_plain _) (toP_plain _) (by omega) (fin_b I g (by simpa using q))
  · rename_i xs
    obtain ⟨⟨h1, h2, h3⟩, q⟩ := q
    obtain ⟨as, k1⟩ := Dp.reads I _ _ _ (Rp.dp _ _ p1 h1) r1
    obtain ⟨bs, k2⟩ := Dp.reads I _ _ _ (RpW.dp w2 (by simpa only [D.pu] using h2)) r2
    simp only [D.toP] at k2
    unfold dDep at h3
    exact SeqAt.notIn_list_data k2 k1 (toPs_plain _) (toP_plain _) (by omega) (fin_b I g (by simpa using q))
  · rename_i ks es
    obtain ⟨k, hk, q⟩ := q
    obtain rfl := rp_key p1 hk
    obtain ⟨l, kvs, rfl, h1, rfl, h3⟩ := w2
    cases r2
    exact d_notIn (by omega) I (.inl ⟨kvs, k, h1, rfl, rfl⟩) r1 fun s' I' => fin_b I' g (by rw [valV_mem]; simpa using q))
  fun M ds P ⟨a, b, e, _⟩ => ⟨a, b, e⟩

/-! ### isinstance -/
def tyD : D → String
  | .non => "NoneType" | .bl _ => "bool" | .int _ => "int" | .str _ => "str" | .tup _ => "tuple" | .lst _ => "list" | .dic _ _ => "dict" | _ => ""
def isaD (d : D) (T : String) : Bool := tyD d == T || (tyD d == "bool" && T == "int")
def tyKnown (T : String) : Bool := T == "int" || T == "bool" || T == "str" || T == "tuple" || T == "list" || T == "dict"
theorem kit_known {d : D} {T : String} (h : tyD d ≠ "") (hT : tyKnown T = true) : kitB (tyD d) T = some (isaD d T) := by
  simp only [tyKnown, Bool.or_eq_true, beq_iff_eq] at hT
  rcases hT with ((((rfl | rfl) | rfl) | rfl) | rfl) | rfl <;> cases d <;> first
    | exact absurd rfl h
    | (simp only [tyD, isaD]; decide +kernel)
theorem tyX_of {K : PySem.W.Frag} {F : Addr → Prop} {m : List Addr} {H : Hp} {d : D} {v : V} (r : RpW K F m H d v) (h : tyD d ≠ "") : TyX K H v (.type (tyD d)) := by
  cases d with
  | non => simp only [RpW, Rp] at r; subst r; exact .base .non
  | bl b => simp only [RpW, Rp] at r; subst r; exact .base (.bl b)
  | int i => simp only [RpW, Rp] at r; subst r; exact .base (.int i)
  | str x => simp only [RpW, Rp] at r; obtain ⟨rfl, _⟩ := r; exact .base (.str x)
  | tup ds =>
    simp only [RpW, Rp] at r
    obtain ⟨a, xs, rfl, h1, _⟩ := r
    rcases h1 with ⟨o, h1, _⟩ | ⟨o, its, n, h1, h2, _⟩
    · exact .fTuple h1
    · exact .kTuple h1 h2
  | lst ds =>
    obtain ⟨a, xs, rfl, (h1 | ⟨o, h1⟩) | ⟨o, its, n, h1, h2, _⟩, _⟩ := r
    · exact .base (.lst h1)
    · exact .base (.frz h1)
    · exact .kList h1 h2
  | dic ks ds =>
    obtain ⟨a, xs, rfl, h1 | ⟨o, h1⟩, _⟩ := r
    · exact .base (.dK h1)
    · exact .fDict h1
  | obj n => exact absurd rfl h
  | raw w => exact absurd rfl h
def rawTys : List D → Option (List String)
  | [] => some []
  | .raw (.ty T) :: r => (rawTys r).map fun l => T :: l
  | _ => none
theorem rawTys_vs {K : PySem.W.Frag} {F : Addr → Prop} {m : List Addr} {H : Hp} : ∀ {ds : List D} {vs : List V} {Ts : List String}, Rps K F m H ds vs → rawTys ds = some Ts → vs = Ts.map V.ty
  | [], _, _, h, e => by simp only [Rps] at h; subst h; simp only [rawTys] at e; cases e; rfl
  | d :: ds, _, Ts, h, e => by
    obtain ⟨x, r, rfl, h1, h2⟩ := Rps.cons_inv h
    cases d with
    | raw w =>
      cases w with
      | ty T =>
        simp only [rawTys] at e
        cases q : rawTys ds with
        | none => rw [q] at e; cases e
        | some l =>
          rw [q] at e
          simp only [Option.map_some, Option.some.injEq] at e
          subst e
          simp only [Rp] at h1
          subst h1
          rw [rawTys_vs h2 q]; rfl
      | _ => simp [rawTys] at e
    | _ => simp [rawTys] at e
def oIsi : DSp := fun M ds P => (∃ a T, ds = [a, .raw (.ty T)] ∧ tyKnown T = true ∧ tyD (vw M a) ≠ "" ∧ P (.bl (isaD (vw M a) T)) M) ∨
  ∃ a ts Ts, ds = [a, .tup ts] ∧ rawTys ts = some Ts ∧ Ts.all tyKnown = true ∧ tyD (vw M a) ≠ "" ∧ P (.bl (Ts.any (isaD (vw M a)))) M
theorem kitAny_known {K : PySem.W.Frag} {d : D} (h : tyD d ≠ "") : ∀ {Ts : List String}, Ts.all tyKnown = true → PySem.W.kitAny K (.type (tyD d)) (Ts.map Value.type) = some (Ts.any (isaD d))
  | [], _ => by simp [kitAny_nil]
  | T :: Ts, hT => by
    simp only [List.all_cons, Bool.and_eq_true] at hT
    rw [List.map_cons, List.any_cons]
    refine kitAny_cons (kit_ty (kit_known h hT.1)) (fun e => ?_) fun e => ?_
    · rw [e, Bool.false_or]; exact kitAny_known h hT.2
    · rw [e, Bool.true_or]
theorem paired_ty : ∀ Ts : List String, Paired ClsV (Ts.map V.ty) (Ts.map Value.type)
  | [] => .nil
  | T :: Ts => .cons (.ty T) (paired_ty Ts)
theorem op_isi : OpD X (fun us => call (.builtin "isinstance") us) oIsi := by
  intro pins s σ H F m M us vs ds P I rv g rp q
  rcases q with ⟨a, T, rfl, hT, h, q⟩ | ⟨a, ts, Ts, rfl, hts, hT, h, q⟩
  · obtain ⟨x, y, rfl, p1, p2⟩ := rps2 rp
    simp only [Rp] at p2; subst p2
    exact call_isi pins s σ H _ us _ I rv ⟨x, .ty T, _, _, _, rfl, .ty T, tyX_of (g.look p1) h, kit_ty (kit_known h hT), Fin.now g q (by simp [Rp])⟩
  · obtain ⟨x, y, rfl, p1, p2⟩ := rps2 rp
    simp only [Rp] at p2
    obtain ⟨tp, cs, rfl, h1, h2⟩ := p2
    have ecs := rawTys_vs h2 hts
    subst ecs
    rcases h1 with ⟨o, h1, _⟩ | ⟨o, its, n, h1, hc, _, hd, _, hv⟩
    · obtain ⟨u1, u2, rfl, r1, r2⟩ := vals2 rv
      cases (show u2 = Value.ref tp from r2)
      obtain ⟨P', Z, p, hx⟩ := kit_of I r1 (tyX_of (g.look p1) h)
      obtain ⟨_, _, its, rv', o', k1, k2, n, k3⟩ := (show ObjOk X.prog X.w H s.heap tp (.frz o (.tup _)) from I.hok tp _ h1)
      have e3 := ClsV.all (paired_ty Ts) rv'
      subst e3
      obtain ⟨oc, od, dt, sl⟩ := o'
      simp only at k2 k3
      subst k2 k3
      exact PySem.W.kia_tup Z I.kIn p k1 (kitAny_known h hT) hx fun tk => ⟨.bl _, H, I.tok tk, rfl, Fin.now g q (by simp [Rp])⟩
    · have e3 := ClsV.all (paired_ty Ts) hv
      obtain ⟨oc, od, dt, sl⟩ := o
      simp only at hc hd
      subst hc hd
      refine call_isiK pins s σ H _ us _ I rv ⟨x, tp, od, its.toList, n, sl, _, _, rfl, ?_, tyX_of (g.look p1) h, ?_, Fin.now g q (by rfl)⟩
      · simpa using h1
      · rw [e3]; exact kitAny_known h hT
end
end L3
namespace L3
open PySem PySem.Spec PyProof.Rows L2
section
variable {X : Cx} {c : Ctx}
abbrev fn1 (id : String) : List Value → Sem Value := fun us => call (.builtin id) us
abbrev ty1 (T : String) : List Value → Sem Value := fun us => call (.type T) us
/-! ### len -/
def lenD : D → Option Nat
  | .str x => some x.length | .tup ds => some ds.length | .lst ds => some ds.length | .dic ks _ => some ks.length | _ => none
def oLen : DSp := fun M ds P => ∃ a n, ds = [a] ∧ lenD (vw M a) = some n ∧ P (.int n) M
theorem op_len : OpD X (fn1 "len") oLen := opD1 (fun pins s σ H F m M u x a P I r1 g p1 w1 q => by
  obtain ⟨a', n, e, hn, q⟩ := q
  obtain rfl := l1inj e
  have viaL : LenV X.K x H n → wpAny (model X.prog X.w) X.A (call (.builtin "len") [u]) (EP X pins σ (Fin X.K F m H P)) X.xe s := fun l =>
    call_len pins s σ H [x] [u] _ I (.cons r1 .nil) ⟨x, n, rfl, l, Fin.now g q (by simp [Rp])⟩
  revert w1 hn
  cases vw M a <;> intro w1 hn <;> simp only [lenD, Option.some.injEq, reduceCtorEq] at hn
  · simp only [RpW, Rp] at w1
    obtain ⟨rfl, hz⟩ := w1
    exact viaL ⟨hz, hn.symm⟩
  · simp only [RpW, Rp] at w1
    obtain ⟨p, xs, rfl, h1, h2⟩ := w1
    exact viaL (.inr ⟨xs, h1.sq, by rw [← hn]; exact h2.length⟩)
  · obtain ⟨p, xs, rfl, h1, h2⟩ := w1
    exact viaL (.inl ⟨xs, h1, by rw [← hn]; exact h2.length⟩)
  · obtain ⟨p, kvs, rfl, h1, h2, h3⟩ := w1
    cases r1
    refine d_len I h1 fun t s' I' => ⟨.int n, H, I', ⟨t, ?_⟩, Fin.now g q (by simp [Rp])⟩
    rw [← hn, ← h2, List.length_map])
  fun M ds P ⟨a, n, e, _⟩ => ⟨a, e⟩

/-! ### int, str, abs, max, min -/
def oToInt : DSp := fun M ds P => (∃ i, ds = [.int i] ∧ P (.int i) M) ∨ ∃ b, ds = [.bl b] ∧ P (.int (if b = true then 1 else 0)) M
theorem op_int : OpD X (ty1 "int") oToInt := opD1 (fun pins s σ H F m M u x a P I r1 g p1 w1 q => by
  rcases q with ⟨i, e, q⟩ | ⟨b, e, q⟩
  · obtain rfl := l1inj e
    simp only [Rp] at p1; subst p1
    exact call_int1 pins s σ H _ [u] _ I (.cons r1 .nil) (.inl ⟨i, rfl, Fin.now g q (by simp [Rp])⟩)
  · obtain rfl := l1inj e
    simp only [Rp] at p1; subst p1
    exact call_int1 pins s σ H _ [u] _ I (.cons r1 .nil) (.inr ⟨b, rfl, Fin.now g q (by simp [Rp])⟩))
  fun M ds P h => h.elim (fun ⟨i, e, _⟩ => ⟨_, e⟩) fun ⟨i, e, _⟩ => ⟨_, e⟩
def oToStr : DSp := fun M ds P => (∃ i, ds = [.int i] ∧ i.natAbs.log2 < 1920 ∧ (toString i : Str).length ≤ sizeLine ∧ P (.str (toString i)) M) ∨ ∃ x, ds = [.str x] ∧ P (.str x) M
theorem op_str : OpD X (ty1 "str") oToStr := opD1 (fun pins s σ H F m M u x a P I r1 g p1 w1 q => by
  rcases q with ⟨i, e, h1, h2, q⟩ | ⟨b, e, q⟩
  · obtain rfl := l1inj e
    simp only [Rp] at p1; subst p1
    exact call_str_int pins s σ H _ [u] _ I (.cons r1 .nil) ⟨i, rfl, h1, Fin.now g q (by simp only [Rp]; exact ⟨trivial, h2⟩)⟩
  · obtain rfl := l1inj e
    have p2 := p1
    simp only [Rp] at p1; obtain ⟨rfl, _⟩ := p1
    exact SkE.call_str_str pins s σ H _ [u] _ I (.cons r1 .nil) ⟨b, rfl, Fin.now g q p2⟩)
  fun M ds P h => h.elim (fun ⟨i, e, _⟩ => ⟨_, e⟩) fun ⟨i, e, _⟩ => ⟨_, e⟩
def oAbs : DSp := fun M ds P => ∃ i, ds = [.int i] ∧ P (.int (if i < 0 then -i else i)) M
theorem op_abs : OpD X (fn1 "abs") oAbs := opD1 (fun pins s σ H F m M u x a P I r1 g p1 w1 q => by
  obtain ⟨i, e, q⟩ := q
  obtain rfl := l1inj e
  simp only [Rp] at p1; subst p1
  exact call_abs pins s σ H _ [u] _ I (.cons r1 .nil) ⟨i, rfl, Fin.now g q (by simp [Rp])⟩)
  fun M ds P ⟨i, e, _⟩ => ⟨_, e⟩
def oMax2 : DSp := fun M ds P => ∃ i j, ds = [.int i, .int j] ∧ P (.int (if j > i then j else i)) M
def oMin2 : DSp := fun M ds P => ∃ i j, ds = [.int i, .int j] ∧ P (.int (if j < i then j else i)) M
theorem op_max2 (hc : X.calm = true) : OpD X (fn1 "max") oMax2 := OpD.call (call_max2 hc) fun F m M H vs ds P g rp ⟨i, j, e, q⟩ => by
  subst e
  obtain ⟨x, y, rfl, p1, p2⟩ := rps2 rp
  simp only [Rp] at p1 p2; subst p1 p2
  exact ⟨i, j, rfl, Fin.now g q (by simp [Rp])⟩
theorem op_min2 (hc : X.calm = true) : OpD X (fn1 "min") oMin2 := OpD.call (call_min2 hc) fun F m M H vs ds P g rp ⟨i, j, e, q⟩ => by
  subst e
  obtain ⟨x, y, rfl, p1, p2⟩ := rps2 rp
  simp only [Rp] at p1 p2; subst p1 p2
  exact ⟨i, j, rfl, Fin.now g q (by simp [Rp])⟩

/-! ### sum, all, any of lists -/
theorem rps_ints {K : PySem.W.Frag} {F : Addr → Prop} {m : List Addr} {H : Hp} : ∀ {ns : List Int} {xs : List V}, Rps K F m H (ns.map D.int) xs → xs = ns.map V.int
  | [], _, h => Rps.nil_inv h
  | n :: ns, _, h => by
    obtain ⟨x, r, rfl, h1, h2⟩ := Rps.cons_inv h
    simp only [Rp] at h1
    rw [h1, rps_ints h2]; rfl
theorem rps_bools {K : PySem.W.Frag} {F : Addr → Prop} {m : List Addr} {H : Hp} : ∀ {ns : List Bool} {xs : List V}, Rps K F m H (ns.map D.bl) xs → xs = ns.map V.bl
  | [], _, h => Rps.nil_inv h
  | n :: ns, _, h => by
    obtain ⟨x, r, rfl, h1, h2⟩ := Rps.cons_inv h
    simp only [Rp] at h1
    rw [h1, rps_bools h2]; rfl
theorem rps_strs {K : PySem.W.Frag} {F : Addr → Prop} {m : List Addr} {H : Hp} : ∀ {ns : List Str} {xs : List V}, Rps K F m H (ns.map D.str) xs → xs = ns.map V.str ∧ ∀ x ∈ ns, x.length ≤ sizeLine
  | [], _, h => ⟨Rps.nil_inv h, by simp⟩
  | n :: ns, _, h => by
    obtain ⟨x, r, rfl, h1, h2⟩ := Rps.cons_inv h
    simp only [Rp] at h1
    obtain ⟨e, hq⟩ := rps_strs h2
    rw [h1.1, e]; exact ⟨rfl, by simpa using ⟨h1.2, hq⟩⟩
def oSum : DSp := fun M ds P => ∃ (a : D) (ns : List Int), ds = [a] ∧ vw M a = .lst (ns.map D.int) ∧ P (.int ns.sum) M
theorem op_sum (hc : X.calm = true) : OpD X (fn1 "sum") oSum := opD1 (fun pins s σ H F m M u x a P I r1 g p1 w1 q => by
  obtain ⟨a', ns, e, hv, q⟩ := q
  obtain rfl := l1inj e
  rw [hv] at w1
  obtain ⟨p, xs, rfl, h1, h2⟩ := w1
  have := rps_ints h2; subst this
  exact cr_sum hc pins s σ H _ [u] _ I (.cons r1 .nil) ⟨p, ns, rfl, h1, Fin.now g q (by simp [Rp])⟩)
  fun M ds P ⟨a, n, e, _⟩ => ⟨a, e⟩
def oAll : DSp := fun M ds P => ∃ (a : D) (bs : List Bool), ds = [a] ∧ vw M a = .lst (bs.map D.bl) ∧ P (.bl (bs.all id)) M
def oAny : DSp := fun M ds P => ∃ (a : D) (bs : List Bool), ds = [a] ∧ vw M a = .lst (bs.map D.bl) ∧ P (.bl (bs.any id)) M
theorem op_all (hc : X.calm = true) : OpD X (fn1 "all") oAll := opD1 (fun pins s σ H F m M u x a P I r1 g p1 w1 q => by
  obtain ⟨a', ns, e, hv, q⟩ := q
  obtain rfl := l1inj e
  rw [hv] at w1
  obtain ⟨p, xs, rfl, h1, h2⟩ := w1
  have := rps_bools h2; subst this
  exact cr_all hc pins s σ H _ [u] _ I (.cons r1 .nil) ⟨p, ns, rfl, h1, Fin.now g q (by simp [Rp])⟩)
  fun M ds P ⟨a, n, e, _⟩ => ⟨a, e⟩
theorem op_any (hc : X.calm = true) : OpD X (fn1 "any") oAny := opD1 (fun pins s σ H F m M u x a P I r1 g p1 w1 q => by
  obtain ⟨a', ns, e, hv, q⟩ := q
  obtain rfl := l1inj e
  rw [hv] at w1
  obtain ⟨p, xs, rfl, h1, h2⟩ := w1
  have := rps_bools h2; subst this
  exact cr_any hc pins s σ H _ [u] _ I (.cons r1 .nil) ⟨p, ns, rfl, h1, Fin.now g q (by simp [Rp])⟩)
  fun M ds P ⟨a, n, e, _⟩ => ⟨a, e⟩

/-! ### tuple(), list() -/
def seqD : D → Option (List D)
  | .tup ds => some ds | .lst ds => some ds | _ => none
def oToTup : DSp := fun M ds P => ∃ a xs, ds = [a] ∧ seqD (vw M a) = some xs ∧ P (.tup xs) M
theorem op_tuple : OpD X (ty1 "tuple") oToTup := opD1 (fun pins s σ H F m M u x a P I r1 g p1 w1 q => by
  obtain ⟨a', xs, e, hs, q⟩ := q
  obtain rfl := l1inj e
  revert w1 hs
  cases vw M a <;> intro w1 hs <;> simp only [seqD, Option.some.injEq, reduceCtorEq] at hs <;> subst hs
  · simp only [RpW] at w1
    have w2 := w1
    simp only [Rp] at w2
    obtain ⟨p, vs, rfl, h1, h2⟩ := w2
    exact call_tuple_of pins s σ H _ [u] _ I (.cons r1 .nil) ⟨p, vs, rfl, .inr ⟨h1.sq, Fin.now g q w1⟩⟩
  · obtain ⟨p, vs, rfl, h1, h2⟩ := w1
    cases r1
    obtain ⟨its, rr, pl, hz⟩ := I.list h1
    have hlen := rr.length
    refine call_tuple_list pl.isList (fun h' kp => ?_) (by simp only [List.size_toArray] <;> omega)
    have I1 : Inv X pins σ H { s with heap := h' } := I.kept (t' := s.toks) kp
    exact ep_tup (its := its) (t' := s.toks) I1 g rr hz h2 q)
  fun M ds P ⟨a, n, e, _⟩ => ⟨a, e⟩
def kD : Key → D | .inl i => .int i | .inr x => .str x
/-- o: whether the list made will be changed -/
def oToList (o : Bool) : DSp := fun M ds P => ∃ a xs, ds = [a] ∧ seqD (vw M a) = some xs ∧ if o = true then P (.obj M.length) (M ++ [.lst xs]) else P (.lst xs) M
theorem op_list {o : Bool} : OpD X (ty1 "list") (oToList o) := opD1 (fun pins s σ H F m M u x a P I r1 g p1 w1 q => by
  obtain ⟨a', xs, e, hs, q⟩ := q
  obtain rfl := l1inj e
  have go : ∀ {p : Addr} {vs : List V}, x = .ref p → (SqL X.K H p vs ∨ SqT X.K H p vs) → Rps X.K F m H xs vs → wpAny (model X.prog X.w) X.A (call (.type "list") [u]) (EP X pins σ (Fin X.K F m H P)) X.xe s := fun {p vs} ex h1 h2 => by
    refine call_list_of pins s σ H [x] [u] _ I (.cons r1 .nil) ⟨p, vs, by rw [ex], h1, fun l hl => ?_⟩
    cases o with
    | true => rw [if_pos rfl] at q; exact fin_lstO g hl h2 q
    | false => rw [if_neg Bool.false_ne_true] at q; exact fin_lst g hl h2 q
  revert w1 hs
  cases vw M a <;> intro w1 hs <;> simp only [seqD, Option.some.injEq, reduceCtorEq] at hs <;> subst hs
  · simp only [RpW, Rp] at w1
    obtain ⟨p, vs, ex, h1, h2⟩ := w1
    exact go ex (.inr h1.sq) h2
  · obtain ⟨p, vs, ex, h1, h2⟩ := w1
    exact go ex (.inl h1) h2)
  fun M ds P ⟨a, n, e, _⟩ => ⟨a, e⟩
end
end L3
namespace L3
open PySem PySem.Spec PyProof.Rows L2
/-! ### the call of a method -/
def mthTy : D → String
  | .str _ => "str" | .int _ => "int" | .lst _ => "list" | .dic _ _ => "dict" | _ => ""
def dMeth (T : String) (dl : DSp) (to : TD) (t : TDA) : TD := fun env M P => to env M fun d M1 => mthTy (vw M1 d) = T ∧ t env M1 fun ds M2 => dl M2 (d :: ds) P
section
variable {X : Cx} {c : Ctx}
theorem tyD_is {pins : List (Addr × Obj)} {σ : L2.St} {s : Shared} {F : Addr → Prop} {m : List Addr} {H : Hp} {d : D} {x : V} {v : Value} {T : String} (I : Inv X pins σ H s) (r : RelV x v) (w : RpW X.K F m H d x) (h : mthTy d = T) (hT : T ≠ "") :
    s.TypeIs v T ∧ ∀ a, v = .ref a → ∃ ob, s.heap.get? a = some ob ∧ ob.dict = none := by
  subst h
  cases d <;> simp only [mthTy] at hT ⊢ <;> try (exact absurd rfl hT)
  · simp only [RpW, Rp] at w; subst w; exact tyV_is (T := "int") I r rfl
  · simp only [RpW, Rp] at w; obtain ⟨rfl, _⟩ := w; exact tyV_is (T := "str") I r rfl
  · obtain ⟨a, xs, rfl, h1, _⟩ := w; exact tyV_is (T := "list") I r (.inl ⟨rfl, xs, h1⟩)
  · obtain ⟨a, xs, rfl, h1, _⟩ := w
    cases r
    obtain ⟨_, _, vs, _, dd⟩ := dk_rd I.hok h1
    exact ⟨dd.typeIs, dd.mapOf.noDict⟩
variable {o e : Expr} {es : List Expr} {to : TD} {t : TDA} {name : Str} {apos cpos : Pos} {T id : String} {dl : DSp}
theorem pd_m0 (hm : OpD X (fun us => call (.builtin id) us) dl) (pa : PlainAttrs T) (slot : Slot T name id) (hty : typeOf (.builtin id) = pure (.type "method_descriptor")) (ho : PD X c o to) (hT : T ≠ "")
    (hbase : attributeBase o name X.env (eval o X.env) = eval o X.env) (hline : (apos.endLine == cpos.line) = true) : PD X c (.Call (.Attribute o name apos) [] [] cpos) (dMeth T dl to dNil) := by
  refine ⟨fun pins s σ H F m M env P I w r h => ?_⟩
  refine wpAny_Call_method0_late hbase hline (thn (ho.run pins s σ H F m M env _ I w r h) fun v s1 ⟨x, H1, I1, r1, d, M1, F1, m1, ⟨ty, q1⟩, e1, g1, p1⟩ => ?_)
  obtain ⟨h1, h2⟩ := tyD_is I1 r1 (g1.look p1) ty hT
  refine ⟨T, id, pa, slot, hty, h1, h2, Calls.callWith_builtin rfl (PySem.evalArgs_none ?_)⟩
  exact thn (hm pins s1 σ H1 F1 m1 M1 [v] [x] [d] P I1 (.cons r1 .nil) g1 (Rps.one p1) q1) fun _ _ z => ep_step z (fin_step (pins := pins) (σ := σ) e1)
theorem pd_m (hm : OpD X (fun us => call (.builtin id) us) dl) (pa : PlainAttrs T) (slot : Slot T name id) (hty : typeOf (.builtin id) = pure (.type "method_descriptor")) (ho : PD X c o to) (ha : PDA X c (e :: es) t) (hT : T ≠ "")
    (hbase : attributeBase o name X.env (eval o X.env) = eval o X.env)
    (hfew : ((backTo cpos (starEach (e :: es) X.env)).all (fun x => !x.1) && (backToKw cpos (keywordEach [] X.env)).all (fun x => x.1.isSome)
      && decide ((e :: es).length + ([] : List Keyword).length + (if ([] : List Keyword).isEmpty then 0 else 1) < 30)) = true)
    (hline : (apos.endLine == cpos.line) = true) (hs : starEach (e :: es) X.env = (false, eval e X.env) :: starEach es X.env) (hplain : (backTo cpos (starEach es X.env)).any (·.1) = false) :
    PD X c (.Call (.Attribute o name apos) (e :: es) [] cpos) (dMeth T dl to t) := by
  refine ⟨fun pins s σ H F m M env P I w r h => ?_⟩
  refine wpAny_Call_method_late hbase hfew hline rfl (thn (ho.run pins s σ H F m M env _ I w r h) fun v s1 ⟨x, H1, I1, r1, d, M1, F1, m1, ⟨ty, q1⟩, e1, g1, p1⟩ => ?_)
  obtain ⟨h1, h2⟩ := tyD_is I1 r1 (g1.look p1) ty hT
  refine ⟨T, id, pa, slot, hty, h1, h2, ?_⟩
  have hA := ha.run cpos pins s1 σ H1 F1 m1 M1 env _ I1 (w.step e1 g1) (r.ext w.good e1) q1
  rw [hs] at hA ⊢
  refine Calls.callWith_builtin (by show (false || (backTo cpos (starEach es X.env)).any (·.1)) = false; rw [hplain] <;> rfl) (Calls.evalArgs_plain ?_)
  refine thn hA fun us s2 ⟨vs, H2, I2, r2, ds, M2, F2, m2, q2, e2, g2, p2⟩ => ?_
  exact thn (hm pins s2 σ H2 F2 m2 M2 (v :: us) (x :: vs) (d :: ds) P I2 (.cons r1 r2) g2 (Rps.cons (Rp.ext g1 e2 d x p1) p2) q2) fun _ _ z => ep_step z (fin_step (pins := pins) (σ := σ) (e1.trans e2))
/-- a rule of the hand layer for a method -/
theorem opMt {r : V → List V → Hp → VK → Prop} (hm : MtR X id r)
    (h : ∀ (F : Addr → Prop) (m : List Addr) (M : St3) (H : Hp) (x : V) (d : D) (vs : List V) (ds : List D) (P : KD), Good X.K F m H M → Rp X.K F m H d x → RpW X.K F m H (vw M d) x → Rps X.K F m H ds vs → dl M (d :: ds) P → r x vs H (Fin X.K F m H P))
    (h0 : ∀ M P, ¬ dl M [] P) : OpD X (fun us => call (.builtin id) us) dl := by
  intro pins s σ H F m M us vs ds P I rv g rp q
  cases ds with
  | nil => exact absurd q (h0 M P)
  | cons d ds =>
    obtain ⟨x, vr, rfl, p1, p2⟩ := Rps.cons_inv rp
    cases rv with
    | cons r1 r2 => exact hm pins s σ H x vr _ _ _ I r1 r2 (h F m M H x d vr ds P g p1 (g.look p1) p2 q)

/-! ### lists that are changed -/
theorem fin_write {K : PySem.W.Frag} {F : Addr → Prop} {m : List Addr} {H : Hp} {M : St3} {P : KD} (g : Good K F m H M) {n : Nat} {p : Addr} {xs : List V} {ds : List D} {d : D} {v : V} (hp : m[n]? = some p) {ys : List V} (hy : H p = some (.lst ys)) (r : Rps K F m H ds xs) (rd : Rp K F m H d v)
    (q : P d (M.set n (.lst ds))) : Fin K F m H P v (upd H p (.lst xs)) := by
  have hm : p ∈ m := List.mem_of_getElem? hp
  have e : Ext F m H F m (upd H p (.lst xs)) := Ext.write g hm (fun _ _ z => by rw [hy] at z; cases z)
  exact ⟨d, _, F, m, q, e, g.write hp (fun _ _ z => by rw [hy] at z; cases z) ⟨xs, upd_same, Rps.ext g e _ _ r⟩, Rp.ext g e _ _ rd⟩
theorem fin_writeD {K : PySem.W.Frag} {F : Addr → Prop} {m : List Addr} {H : Hp} {M : St3} {P : KD} (g : Good K F m H M) {n : Nat} {p : Addr} {kvs : List (Key × V)} {ks : List Key} {ds : List D} {d : D} {v : V} (hp : m[n]? = some p) {kv0 : List (Key × V)} (hy : H p = some (.dK kv0)) (hk : kvs.map (·.1) = ks) (r : Rps K F m H ds (kvs.map (·.2))) (rd : Rp K F m H d v)
    (q : P d (M.set n (.dic ks ds))) : Fin K F m H P v (upd H p (.dK kvs)) := by
  have hm : p ∈ m := List.mem_of_getElem? hp
  have e : Ext F m H F m (upd H p (.dK kvs)) := Ext.write g hm (fun _ _ z => by rw [hy] at z; cases z)
  exact ⟨d, _, F, m, q, e, g.write hp (fun _ _ z => by rw [hy] at z; cases z) ⟨kvs, upd_same, hk, Rps.ext g e _ _ r⟩, Rp.ext g e _ _ rd⟩
theorem Good.objL {K : PySem.W.Frag} {F : Addr → Prop} {m : List Addr} {H : Hp} {M : St3} (g : Good K F m H M) {n : Nat} {ds : List D} {x : V} (p : Rp K F m H (.obj n) x) (h : M[n]? = some (.lst ds)) : ∃ a xs, x = .ref a ∧ m[n]? = some a ∧ H a = some (.lst xs) ∧ Rps K F m H ds xs := by
  simp only [Rp] at p
  obtain ⟨a, h1, rfl⟩ := p
  obtain ⟨_, xs, h3, h4⟩ := g.at_ n a _ h1 h
  exact ⟨a, xs, rfl, h1, h3, h4⟩
theorem Good.objD {K : PySem.W.Frag} {F : Addr → Prop} {m : List Addr} {H : Hp} {M : St3} (g : Good K F m H M) {n : Nat} {ks : List Key} {ds : List D} {x : V} (p : Rp K F m H (.obj n) x) (h : M[n]? = some (.dic ks ds)) :
    ∃ a kvs, x = .ref a ∧ m[n]? = some a ∧ H a = some (.dK kvs) ∧ kvs.map (·.1) = ks ∧ Rps K F m H ds (kvs.map (·.2)) := by
  simp only [Rp] at p
  obtain ⟨a, h1, rfl⟩ := p
  obtain ⟨_, kvs, h3, hk, h4⟩ := g.at_ n a _ h1 h
  exact ⟨a, kvs, rfl, h1, h3, hk, h4⟩
def oAppend : DSp := fun M ds P => ∃ n d xs, ds = [.obj n, d] ∧ M[n]? = some (.lst xs) ∧ xs.length < sizeLine ∧ P .non (M.set n (.lst (xs ++ [d])))
theorem op_append : OpD X (fun us => call (.builtin "list.append") us) oAppend := opMt mt_append (fun F m M H x d vs ds P g p1 w1 p2 q => by
  obtain ⟨n, d', xs, e, hM, hz, q⟩ := q
  injection e with e1 e2; subst e1 e2
  obtain ⟨a, ys, rfl, hm, hH, hr⟩ := g.objL p1 hM
  obtain ⟨v, rfl, p3⟩ := rps1 p2
  exact ⟨a, ys, v, rfl, rfl, hH, by rw [← hr.length]; exact hz, fin_write g hm hH (hr.append (Rps.one p3)) (by simp [Rp]) q⟩)
  fun M P ⟨n, d, xs, e, _⟩ => by simp at e
def oPop : DSp := fun M ds P => ∃ n xs d, ds = [.obj n] ∧ M[n]? = some (.lst xs) ∧ xs[xs.length - 1]? = some d ∧ P d (M.set n (.lst xs.dropLast))
theorem op_pop : OpD X (fun us => call (.builtin "list.pop") us) oPop := opMt mt_pop (fun F m M H x d vs ds P g p1 w1 p2 q => by
  obtain ⟨n, xs, d', e, hM, hz, q⟩ := q
  injection e with e1 e2; subst e1 e2
  obtain ⟨a, ys, rfl, hm, hH, hr⟩ := g.objL p1 hM
  obtain rfl := Rps.nil_inv p2
  obtain ⟨v, hv, rv⟩ := hr.get hz
  refine ⟨a, ys, v, rfl, rfl, hH, by rw [← hr.length]; exact hv, fin_write g hm hH ?_ rv q⟩
  rw [List.dropLast_eq_take, List.dropLast_eq_take, hr.length]
  exact hr.take _)
  fun M P ⟨n, d, xs, e, _⟩ => by simp at e
theorem Rps.erase {K : PySem.W.Frag} {F : Addr → Prop} {m : List Addr} {H : Hp} : ∀ {ds : List D} {xs : List V} (i : Nat), Rps K F m H ds xs → Rps K F m H (ds.eraseIdx i) (xs.eraseIdx i)
  | [], _, _, h => by obtain rfl := Rps.nil_inv h; simp [Rps]
  | d :: ds, _, 0, h => by obtain ⟨x, r, rfl, _, h2⟩ := Rps.cons_inv h; simpa using h2
  | d :: ds, _, i + 1, h => by obtain ⟨x, r, rfl, h1, h2⟩ := Rps.cons_inv h; simpa using Rps.cons h1 (Rps.erase i h2)
def oPopAt : DSp := fun M ds P => ∃ n i k xs d, ds = [.obj n, .int i] ∧ M[n]? = some (.lst xs) ∧ -(2 ^ 63) ≤ i ∧ i < 2 ^ 63 ∧ seqIndex? i xs.length = some k ∧ xs[k]? = some d ∧ P d (M.set n (.lst (xs.eraseIdx k)))
theorem op_popAt : OpD X (fun us => call (.builtin "list.pop") us) oPopAt := opMt mt_popAt (fun F m M H x d vs ds P g p1 w1 p2 q => by
  obtain ⟨n, i, k, xs, d', e, hM, h1, h2, h3, h4, q⟩ := q
  injection e with e1 e2; subst e1 e2
  obtain ⟨a, ys, rfl, hm, hH, hr⟩ := g.objL p1 hM
  obtain ⟨v, rfl, p3⟩ := rps1 p2
  simp only [Rp] at p3; subst p3
  obtain ⟨v, hv, rv⟩ := hr.get h4
  exact ⟨a, ys, i, k, v, rfl, rfl, hH, h1, h2, by rw [← hr.length]; exact h3, hv, fin_write g hm hH (hr.erase k) rv q⟩)
  fun M P ⟨n, _, _, d, xs, e, _⟩ => by simp at e
def oInsert : DSp := fun M ds P => ∃ n i d xs, ds = [.obj n, .int i, d] ∧ M[n]? = some (.lst xs) ∧ xs.length < sizeLine ∧ 0 ≤ i ∧ i < 2 ^ 63 ∧ P .non (M.set n (.lst (xs.take i.toNat ++ [d] ++ xs.drop i.toNat)))
theorem op_insert : OpD X (fun us => call (.builtin "list.insert") us) oInsert := opMt mt_insert (fun F m M H x d vs ds P g p1 w1 p2 q => by
  obtain ⟨n, i, d', xs, e, hM, hz, h1, h2, q⟩ := q
  injection e with e1 e2; subst e1 e2
  obtain ⟨a, ys, rfl, hm, hH, hr⟩ := g.objL p1 hM
  obtain ⟨v, w, rfl, p3, p4⟩ := rps2 p2
  simp only [Rp] at p3; subst p3
  exact ⟨a, ys, i, w, rfl, rfl, hH, by rw [← hr.length]; exact hz, h1, h2, fin_write g hm hH (((hr.take _).append (Rps.one p4)).append (hr.drop _)) (by simp [Rp]) q⟩)
  fun M P ⟨n, _, d, xs, e, _⟩ => by simp at e
theorem list_extendW (l : Addr) (items : Array Value) (n : Nat) (b : Addr) (items2 : Array Value) (n2 : Nat) (sl : Array (Option Value)) (hc0 : ¬(!items.isEmpty && Builtin.List.listTooLong (items.size + items2.size)) = true) (hc1 : items.size ≤ sizeLine) (hs2 : items.size + items2.size ≤ sizeLine + 1) :
    Meets (Builtin.«list.extend» ⟨[.ref l, .ref b], []⟩) (fun _ R s => s.heap.get? l = some { cls := .type "list", data := .seq items n } ∧ s.heap.get? b = some { cls := .type "list", data := .seq items2 n2, slots := sl } ∧ R (.ok (.ret Value.none)) { s with heap := s.heap.update l (Obj.mapSeq fun x => x ++ items2), toks := s.toks }) := .of_wp fun prog w A R s h => by
  obtain ⟨hp, g, d, tk, os⟩ := s; obtain ⟨hl, hb, h⟩ := h
  have f1 := AutoSeq1.idx_int
  have f2 := AutoSeq1.sub_tuple_tuple
  have f3 := AutoSeq1.sub_list_list
  have f4 := AutoSeq1.sub_tuple_list
  have f5 := AutoSeq1.sub_list_tuple
  have hz' : (items ++ items2).size ≤ sizeLine + 1 := by rw [Array.size_append]; exact hs2
  wp_walk using (wpAny_updateSeq hl rfl (hz := hc1) (_hz' := hz')), wpAny_loadPart' hl, wpAny_loadPart' hb
  exact ⟨_, rfl, h⟩
def rExtendR (K : PySem.W.Frag) : V → List V → Hp → VK → Prop := fun x vs H Q => ∃ l b xs zs, x = .ref l ∧ vs = [.ref b] ∧ H l = some (.lst xs) ∧ SqL K H b zs ∧ xs.length + zs.length ≤ sizeLine ∧ Q .non (upd H l (.lst (xs ++ zs)))
theorem mt_extendR : MtM X "list.extend" (rExtendR X.K) := by
  intro pins s σ H x vs v us Q I rx rv h
  obtain ⟨l, b, xs, zs, rfl, rfl, hH, hB, hz, q⟩ := h
  cases rx
  obtain ⟨u, rfl, ru⟩ := rv.one
  cases ru
  obtain ⟨z, its, n, r, hl, e⟩ := lstR I (.inl hH)
  obtain ⟨its2, r2, ⟨⟨cls2, dd2, data2, sl2⟩, n2, e2, hc2, hd2, hs2⟩, _⟩ := I.list hB
  simp only at hc2 hd2 hs2
  subst hc2 hd2 hs2
  have hl2 := r2.length
  have hsz : its.toArray.size + its2.toArray.size ≤ sizeLine := by rw [List.size_toArray, List.size_toArray]; omega
  have hlong : ¬ (!its.toArray.isEmpty && Builtin.List.listTooLong (its.toArray.size + its2.toArray.size)) = true := by
    rw [notLongL hsz, Bool.and_false]
    exact Bool.false_ne_true
  refine call_meets F.slot_list_extend ⟨_, e, rfl⟩ F.entry_list_extend (F.args_list_extend_2 _ _)
    (list_extendW l its.toArray n b its2.toArray n2 sl2 hlong (by rw [List.size_toArray]; omega) (by omega)) ⟨e, e2, ?_⟩
  refine ⟨.non, _, I.lset (its' := its ++ its2) hH e (by simp) (r.append r2) ?_, rfl, q⟩
  rw [List.length_append]
  omega
/-- xs.extend(ys), ys a list -/
def oExtend : DSp := fun M ds P => ∃ n d xs ys, ds = [.obj n, d] ∧ M[n]? = some (.lst xs) ∧ vw M d = .lst ys ∧ xs.length + ys.length ≤ sizeLine ∧ P .non (M.set n (.lst (xs ++ ys)))
theorem op_extend : OpD X (fun us => call (.builtin "list.extend") us) oExtend := opMt mt_extendR (fun F m M H x d vs ds P g p1 w1 p2 q => by
  obtain ⟨n, d', xs, zs, e, hM, hy, hz, q⟩ := q
  injection e with e1 e2; subst e1 e2
  obtain ⟨a, ys, rfl, hm, hH, hr⟩ := g.objL p1 hM
  obtain ⟨v, rfl, p3⟩ := rps1 p2
  have w3 := g.look p3
  rw [hy] at w3
  obtain ⟨b, us, rfl, hb, hu⟩ := w3
  exact ⟨a, b, ys, us, rfl, rfl, hH, hb, by rw [← hr.length, ← hu.length]; exact hz, fin_write g hm hH (hr.append hu) (by simp [Rp]) q⟩)
  fun M P ⟨n, d, xs, _, e, _⟩ => by simp at e

/-! ### texts -/
def oUpper : DSp := fun M ds P => ∃ x, ds = [.str x] ∧ x.length ≤ 5592405 ∧ (Txt.upper x).length ≤ sizeLine ∧ P (.str (Txt.upper x)) M
theorem op_upper : OpD X (fun us => call (.builtin "str.upper") us) oUpper := opMt mt_upper (fun F m M H x d vs ds P g p1 w1 p2 q => by
  obtain ⟨z, e, h1, h2, q⟩ := q
  injection e with e1 e2; subst e1 e2
  simp only [Rp] at p1; obtain ⟨rfl, _⟩ := p1
  obtain rfl := Rps.nil_inv p2
  exact ⟨z, rfl, rfl, h1, Fin.now g q (by simp [Rp, h2])⟩)
  fun M P ⟨n, e, _⟩ => by simp at e
def oSIndex : DSp := fun M ds P => ∃ a b i rest, ds = [.str a, .str b] ∧ Builtin.Str.occurrences a b 0 a.length 1 = i :: rest ∧ P (.int (i : Nat)) M
theorem op_sindex : OpD X (fun us => call (.builtin "str.index") us) oSIndex := opMt mt_sindex (fun F m M H x d vs ds P g p1 w1 p2 q => by
  obtain ⟨a, b, i, rest, e, h1, q⟩ := q
  injection e with e1 e2; subst e1 e2
  simp only [Rp] at p1; obtain ⟨rfl, _⟩ := p1
  obtain ⟨v, rfl, p3⟩ := rps1 p2
  simp only [Rp] at p3; obtain ⟨rfl, _⟩ := p3
  exact ⟨a, b, i, rest, rfl, rfl, h1, Fin.now g q (by simp [Rp])⟩)
  fun M P ⟨_, _, _, n, e, _⟩ => by simp at e
def oJoin : DSp := fun M ds P => ∃ a d ys, ds = [.str a, d] ∧ (vw M d = .lst (List.map D.str ys) ∨ vw M d = .tup (List.map D.str ys)) ∧ (ys.map (·.length)).sum + ys.length * a.length ≤ 16777216 ∧ (Txt.join a ys).length ≤ sizeLine ∧ P (.str (Txt.join a ys)) M
theorem op_join : OpD X (fun us => call (.builtin "str.join") us) oJoin := opMt mt_join (fun F m M H x d vs ds P g p1 w1 p2 q => by
  obtain ⟨a, d', ys, e, h1, h2, h3, q⟩ := q
  injection e with e1 e2; subst e1 e2
  simp only [Rp] at p1; obtain ⟨rfl, _⟩ := p1
  obtain ⟨v, rfl, p3⟩ := rps1 p2
  have w3 := g.look p3
  rcases h1 with h1 | h1
  · rw [h1] at w3
    obtain ⟨b, us, rfl, hb, hu⟩ := w3
    obtain ⟨rfl, _⟩ := rps_strs hu
    exact ⟨a, b, ys, rfl, rfl, (.inl hb), h2, Fin.now g q (by simp only [Rp]; exact ⟨trivial, h3⟩)⟩
  · rw [h1] at w3
    simp only [RpW, Rp] at w3
    obtain ⟨b, us, rfl, hb, hu⟩ := w3
    obtain ⟨rfl, _⟩ := rps_strs hu
    exact ⟨a, b, ys, rfl, rfl, .inr hb.sq, h2, Fin.now g q (by simp only [Rp]; exact ⟨trivial, h3⟩)⟩)
  fun M P ⟨_, _, n, e, _⟩ => by simp at e
theorem rps_ofStrs {K : PySem.W.Frag} {F : Addr → Prop} {m : List Addr} {H : Hp} : ∀ {ns : List Str}, (∀ x ∈ ns, x.length ≤ sizeLine) → Rps K F m H (ns.map D.str) (ns.map V.str)
  | [], _ => Rps.nil
  | n :: ns, h => Rps.cons (by simp [Rp, h n (by simp)]) (rps_ofStrs fun x hx => h x (by simp [hx]))
/-- a.split(b); o: whether the list will be changed -/
def oSplit (o : Bool) : DSp := fun M ds P => ∃ a b, ds = [.str a, .str b] ∧ (b.length == 0) = false ∧ a.length + 2 ≤ sizeLine ∧ (∀ x ∈ Txt.split a b, x.length ≤ sizeLine) ∧
  if o = true then P (.obj M.length) (M ++ [.lst ((Txt.split a b).map D.str)]) else P (.lst ((Txt.split a b).map D.str)) M
theorem op_split {o : Bool} : OpD X (fun us => call (.builtin "str.split") us) (oSplit o) := opMt mt_split (fun F m M H x d vs ds P g p1 w1 p2 q => by
  obtain ⟨a, b, e, h1, h2, h3, q⟩ := q
  injection e with e1 e2; subst e1 e2
  simp only [Rp] at p1; obtain ⟨rfl, _⟩ := p1
  obtain ⟨v, rfl, p3⟩ := rps1 p2
  simp only [Rp] at p3; obtain ⟨rfl, _⟩ := p3
  refine ⟨a, b, rfl, rfl, h1, h2, fun p hp => ?_⟩
  cases o with
  | true => rw [if_pos rfl] at q; exact fin_lstO g hp (rps_ofStrs h3) q
  | false => rw [if_neg Bool.false_ne_true] at q; exact fin_lst g hp (rps_ofStrs h3) q)
  fun M P ⟨_, n, e, _⟩ => by simp at e
def oStarts : DSp := fun M ds P => ∃ a b, ds = [.str a, .str b] ∧ P (.bl (Txt.startswith a b)) M
theorem op_starts : OpD X (fun us => call (.builtin "str.startswith") us) oStarts := opMt mt_startswith (fun F m M H x d vs ds P g p1 w1 p2 q => by
  obtain ⟨a, b, e, q⟩ := q
  injection e with e1 e2; subst e1 e2
  simp only [Rp] at p1; obtain ⟨rfl, _⟩ := p1
  obtain ⟨v, rfl, p3⟩ := rps1 p2
  simp only [Rp] at p3; obtain ⟨rfl, _⟩ := p3
  exact ⟨a, b, rfl, rfl, Fin.now g q (by simp [Rp])⟩)
  fun M P ⟨_, n, e, _⟩ => by simp at e

/-! ### dicts -/
/-- the value at a key -/
def getK : List Key → List D → Key → Option D
  | k :: ks, d :: ds, x => if k = x then some d else getK ks ds x
  | _, _, _ => none
theorem getK_valV {K : PySem.W.Frag} {F : Addr → Prop} {m : List Addr} {H : Hp} {k : Key} : ∀ {kvs : List (Key × V)} {ds : List D}, Rps K F m H ds (kvs.map (·.2)) →
    match getK (kvs.map (·.1)) ds k with | some d => ∃ v, valV kvs k = some v ∧ Rp K F m H d v | none => valV kvs k = none
  | [], ds, h => by obtain rfl : ds = [] := by cases ds with | nil => rfl | cons d r => obtain ⟨_, _, e, _⟩ := Rps.cons_inv h; simp at e
                    simp [getK, valV_nil]
  | p :: r, [], h => by have := h.length; simp at this
  | p :: r, d :: ds, h => by
    obtain ⟨x, y, e, h1, h2⟩ := Rps.cons_inv h
    simp only [List.map_cons, List.cons.injEq] at e
    obtain ⟨rfl, rfl⟩ := e
    simp only [List.map_cons, getK]
    by_cases hk : p.1 = k
    · rw [if_pos hk]; exact ⟨p.2, valV_pos hk, h1⟩
    · rw [if_neg hk, valV_neg hk]; exact getK_valV h2
def oGet1 : DSp := fun M ds P => ∃ a b ks es k, ds = [a, b] ∧ vw M a = .dic ks es ∧ keyD b = some k ∧ P ((getK ks es k).getD .non) M
theorem op_get1 (hu : X.A.units + 1 < cLine) : OpD X (fun us => call (.builtin "dict.get") us) oGet1 := fun pins s σ H F m M us vs ds P I rv g rp q => by
  obtain ⟨a, b, ks, es, k, rfl, hv, hk, q⟩ := q
  obtain ⟨x, y, rfl, p1, p2⟩ := rps2 rp
  obtain ⟨u1, u2, rfl, r1, r2⟩ := vals2 rv
  have w1 := g.look p1
  rw [hv] at w1
  obtain ⟨p, kvs, rfl, h1, rfl, h3⟩ := w1
  obtain rfl := rp_key p2 hk
  cases r1
  refine d_get1 hu I (.inl ⟨kvs, k, h1, rfl, rfl⟩) r2 fun w' s' I' rw' => ?_
  have z := getK_valV (k := k) h3
  revert z q
  cases getK (kvs.map (·.1)) es k with
  | none => intro q z; simp only at z; rw [z] at rw'; exact ⟨.non, H, I', rw', Fin.now g q (by simp [Rp])⟩
  | some d => intro q z; obtain ⟨v, e, rd⟩ := z; rw [e] at rw'; exact ⟨v, H, I', rw', Fin.now g q rd⟩
def oGet2 : DSp := fun M ds P => ∃ a b f ks es k, ds = [a, b, f] ∧ vw M a = .dic ks es ∧ keyD b = some k ∧ P ((getK ks es k).getD f) M
theorem op_get2 (hu : X.A.units + 1 < cLine) : OpD X (fun us => call (.builtin "dict.get") us) oGet2 := fun pins s σ H F m M us vs ds P I rv g rp q => by
  obtain ⟨a, b, f, ks, es, k, rfl, hv, hk, q⟩ := q
  obtain ⟨x, y, z, rfl, p1, p2, p3⟩ := rps3 rp
  cases rv with
  | cons r1 rv =>
  obtain ⟨u2, u3, rfl, r2, r3⟩ := vals2 rv
  have w1 := g.look p1
  rw [hv] at w1
  obtain ⟨p, kvs, rfl, h1, rfl, h3⟩ := w1
  obtain rfl := rp_key p2 hk
  cases r1
  refine d_get2 hu I (.inl ⟨kvs, k, h1, rfl, rfl⟩) r2 r3 fun w' s' I' rw' => ?_
  have z := getK_valV (k := k) h3
  revert z q
  cases getK (kvs.map (·.1)) es k with
  | none => intro q z; simp only at z; rw [z] at rw'; exact ⟨_, H, I', rw', Fin.now g q p3⟩
  | some d => intro q z; obtain ⟨v, e, rd⟩ := z; rw [e] at rw'; exact ⟨v, H, I', rw', Fin.now g q rd⟩
end
end L3
namespace L3
open PySem PySem.Spec PyProof.Rows L2
/-! ### a[b] -/
def IxD (X : Cx) (dl : DSp) : Prop := ∀ (value slice : Expr) (pins : List (Addr × Obj)) (s : Shared) (σ : L2.St) (H : Hp) (F : Addr → Prop) (m : List Addr) (M : St3) (x y : V) (v u : Value) (a b : D) (P : KD),
  Inv X pins σ H s → RelV x v → RelV y u → Good X.K F m H M → Rp X.K F m H a x → Rp X.K F m H b y → dl M [a, b] P → subscripted slice false v u = operate [v, u] (getItem v u) →
  wpAny (model X.prog X.w) X.A (subscriptTail value slice v u) (EP X pins σ (Fin X.K F m H P)) X.xe s
def oIx : DSp := fun M ds P => ∃ a b, ds = [a, b] ∧ match vw M a with
  | .lst xs => ∃ i d, b = .int i ∧ atI xs i = some d ∧ P d M
  | .tup xs => ∃ i d, b = .int i ∧ atI xs i = some d ∧ P d M
  | .str z => ∃ i k, b = .int i ∧ atI z.cps.toList i = some k ∧ P (.str ⟨#[k]⟩) M
  | .dic ks es => ∃ k d, keyD b = some k ∧ getK ks es k = some d ∧ P d M
  | _ => False
theorem atI_len {α β : Type} {xs : List α} {ys : List β} {i : Int} (h : xs.length = ys.length) : ixN xs.length i = ixN ys.length i := by rw [h]
theorem atI_rps {K : PySem.W.Frag} {F : Addr → Prop} {m : List Addr} {H : Hp} {ds : List D} {xs : List V} {i : Int} {d : D} (h : Rps K F m H ds xs) (e : atI ds i = some d) : ∃ v, atI xs i = some v ∧ Rp K F m H d v := by
  unfold atI at e ⊢
  rw [h.length] at e
  cases q : ixN xs.length i with
  | none => rw [q] at e; cases e
  | some j =>
    rw [q] at e
    obtain ⟨v, hv, rv⟩ := h.get (i := j) e
    exact ⟨v, hv, rv⟩
theorem ixD (X : Cx) (hu : X.A.units + 1 < cLine) : IxD X oIx := by
  intro value slice pins s σ H F m M x y v u a b P I r1 r2 g p1 p2 q hs
  obtain ⟨a', b', e, q⟩ := q
  obtain ⟨rfl, rfl⟩ := l2inj e
  have w1 := g.look p1
  revert q w1
  cases vw M a <;> intro q w1 <;> try (exact False.elim q)
  · obtain ⟨i, k, rfl, hk, q⟩ := q
    simp only [RpW, Rp] at w1 p2
    obtain ⟨rfl, hz⟩ := w1
    subst p2
    exact ix_str value slice pins s σ H _ _ v u _ I r1 r2 ⟨_, i, k, rfl, rfl, hz, hk, Fin.now g q (by simp only [Rp]; exact ⟨trivial, sign_ok k⟩)⟩ hs
  · obtain ⟨i, d, rfl, hk, q⟩ := q
    simp only [RpW, Rp] at w1 p2
    obtain ⟨p, xs, rfl, h1, h2⟩ := w1
    subst p2
    obtain ⟨z, hz, rz⟩ := atI_rps h2 hk
    exact ix_tup value slice pins s σ H _ _ v u _ I r1 r2 ⟨p, xs, i, z, rfl, rfl, h1.sq, hz, Fin.now g q rz⟩ hs
  · obtain ⟨i, d, rfl, hk, q⟩ := q
    simp only [Rp] at p2
    obtain ⟨p, xs, rfl, h1, h2⟩ := w1
    subst p2
    obtain ⟨z, hz, rz⟩ := atI_rps h2 hk
    exact ix_list value slice pins s σ H _ _ v u _ I r1 r2 ⟨p, xs, i, z, rfl, rfl, h1, hz, Fin.now g q rz⟩ hs
  · obtain ⟨k, d, hk, hd, q⟩ := q
    obtain ⟨p, kvs, rfl, h1, rfl, h3⟩ := w1
    obtain rfl := rp_key p2 hk
    have z := getK_valV (k := k) h3
    rw [hd] at z
    obtain ⟨z, ez, rz⟩ := z
    cases r1
    have gd : DGet H p (kV k) (some z) := by rw [← ez]; exact .inl ⟨kvs, k, h1, rfl, rfl⟩
    exact tail_any (ops := [.ref p, u]) (dict_typeIs I gd) PySem.F.slot_dict_getitem.lookup (d_getItem hu I gd r2 fun w' s3 I3 rw' => ⟨z, H, I3, rw', Fin.now g q rz⟩) hs
section
variable {X : Cx} {c : Ctx} {a b e : Expr} {ta tb te : TD} {pos p2 : Pos} {dl : DSp}
theorem pd_ix (h : IxD X dl) (ha : PD X c a ta) (hb : PD X c b tb) (hs : PlainIx b) : PD X c (.Subscript a b pos) (dOp2 dl ta tb) := by
  refine ⟨fun pins s σ H F m M env P I w r hq => ?_⟩
  refine Subscript_ (run2 ha hb I w r hq fun u v s2 x y H2 F2 m2 M2 d e I2 r1 r2 q2 e2 g2 p1 p2 => ?_)
  exact thn (h a b pins s2 σ H2 F2 m2 M2 x y u v d e P I2 r1 r2 g2 p1 p2 q2 (hs _ _)) fun _ _ z => ep_step z (fin_step (pins := pins) (σ := σ) e2)

/-! ### slices -/
abbrev TDO := Env3 → St3 → (Option Int → St3 → Prop) → Prop
structure PDO (X : Cx) (c : Ctx) (e : Option Expr) (t : TDO) : Prop where
  run : ∀ (pins : List (Addr × Obj)) (s : Shared) (σ : L2.St) (H : Hp) (F : Addr → Prop) (m : List Addr) (M : St3) (env : Env3) (P : Option Int → St3 → Prop),
    Inv X pins σ H s → World X.K c F m M H → Re X.K F m H env σ → t env M P →
    wpAny (model X.prog X.w) X.A (evalPart e X.env) (fun u s' => ∃ o H', Inv X pins σ H' s' ∧ IsPart u o ∧ ∃ M' F' m', P o M' ∧ Ext F m H F' m' H' ∧ Good X.K F' m' H' M') X.xe s
def dNoPart : TDO := fun _ M P => P none M
def dPart (t : TD) : TDO := fun env M P => t env M fun d M1 => ∃ i, d = .int i ∧ P (some i) M1
theorem pdo_none : PDO X c none dNoPart := by
  refine ⟨fun pins s σ H F m M env P I w r hq => ?_⟩
  rw [evalPart_none]
  exact wpAny_pure ⟨none, H, I, .none, M, F, m, hq, Ext.refl _ _ _, w.good⟩
theorem pdo_some (h : PD X c e te) : PDO X c (some e) (dPart te) := by
  refine ⟨fun pins s σ H F m M env P I w r hq => ?_⟩
  rw [evalPart_some]
  refine thn (h.run pins s σ H F m M env _ I w r hq) fun u s1 ⟨x, H1, I1, r1, d, M1, F1, m1, ⟨i, ed, q1⟩, e1, g1, p1⟩ => ?_
  subst ed
  simp only [Rp] at p1; subst p1
  obtain ⟨t, rfl⟩ := r1
  exact ⟨some i, H1, I1, .int i t, M1, F1, m1, q1, e1, g1⟩
def cutD (xs : List D) (lo hi : Option Int) : List D := (xs.drop (HT.sIx xs.length 0 lo)).take (HT.sIx xs.length xs.length hi - HT.sIx xs.length 0 lo)
theorem cut_rps {K : PySem.W.Frag} {F : Addr → Prop} {m : List Addr} {H : Hp} {ds : List D} {xs : List V} {lo hi : Option Int} (h : Rps K F m H ds xs) : Rps K F m H (cutD ds lo hi) (cutV xs lo hi) := by
  unfold cutD cutV
  rw [h.length]
  exact (h.drop _).take _
/-- o: whether a list made will be changed -/
def oSl (o : Bool) (a : D) (lo hi : Option Int) (M : St3) (P : KD) : Prop := match vw M a with
  | .lst xs => if o = true then P (.obj M.length) (M ++ [.lst (cutD xs lo hi)]) else P (.lst (cutD xs lo hi)) M
  | .tup xs => P (.tup (cutD xs lo hi)) M
  | .str z => P (.str (cutS z lo hi)) M
  | _ => False
theorem cutS_le (z : Str) (lo hi : Option Int) (h : z.length ≤ sizeLine) : (cutS z lo hi).length ≤ sizeLine := by
  refine Nat.le_trans ?_ h
  show (List.toArray _).size ≤ z.cps.size
  rw [List.size_toArray, List.length_take, List.length_drop, Array.length_toList]
  omega
def dSl (o : Bool) (te : TD) (tl th : TDO) : TD := fun env M P => te env M fun d M1 => tl env M1 fun lo M2 => th env M2 fun hi M3 => oSl o d lo hi M3 P
theorem pd_sl {o : Bool} {lo hi : Option Expr} {tl th : TDO} (he : PD X c e te) (hl : PDO X c lo tl) (hh : PDO X c hi th) : PD X c (.Subscript e (.Slice lo hi none p2) pos) (dSl o te tl th) := by
  refine ⟨fun pins s σ H F m M env P I w r hq => ?_⟩
  refine Subscript_ (thn (he.run pins s σ H F m M env _ I w r hq) fun v s1 ⟨x, H1, I1, r1, d, M1, F1, m1, q1, e1, g1, p1⟩ => ?_)
  refine wpAny_Slice (thn (hl.run pins s1 σ H1 F1 m1 M1 env _ I1 (w.step e1 g1) (r.ext w.good e1) q1) fun vl s2 ⟨l, H2, I2, pl, M2, F2, m2, q2, e2, g2⟩ => ?_)
  refine thn (hh.run pins s2 σ H2 F2 m2 M2 env _ I2 ((w.step e1 g1).step e2 g2) ((r.ext w.good e1).ext g1 e2) q2) fun vu s3 ⟨u, H3, I3, pu, M3, F3, m3, q3, e3, g3⟩ => ?_
  rw [evalPart_none]
  refine wpAny_pure ?_
  have p3 : Rp X.K F3 m3 H3 d x := Rp.ext g2 e3 d x (Rp.ext g1 e2 d x p1)
  have ex : Ext F m H F3 m3 H3 := (e1.trans e2).trans e3
  have I4 : Inv X pins σ H3 { s3 with heap := s3.heap.push { cls := .type "slice", data := .fields #[vl, vu, .none] } } :=
    I3.kept (t' := s3.toks) fun b ob q => Heap.get?_push_of_some _ q
  have fin : ∃ T id, typeLookup (.type T) "__getitem__" = pure (some (.builtin id)) ∧ Shared.TypeIs { s3 with heap := s3.heap.push { cls := .type "slice", data := .fields #[vl, vu, .none] } } v T ∧
      wpAny (model X.prog X.w) X.A (getItem v (.ref s3.heap.objs.size)) (EP X pins σ (Fin X.K F3 m3 H3 P)) X.xe { s3 with heap := s3.heap.push { cls := .type "slice", data := .fields #[vl, vu, .none] } } := by
    have w3 := g3.look p3
    unfold oSl at q3
    revert q3 w3
    cases vw M3 d <;> intro q3 w3 <;> try (exact False.elim q3)
    · rename_i z
      simp only [RpW, Rp] at w3
      obtain ⟨rfl, hz⟩ := w3
      exact sl_str pins _ σ H3 _ v vl vu l u _ _ I4 r1 (Heap.IsSliceOf.new ..) pl pu ⟨z, rfl, hz, Fin.now g3 q3 (by simp only [Rp]; exact ⟨trivial, cutS_le z l u hz⟩)⟩
    · rename_i xs
      simp only [RpW] at w3
      have w4 := w3
      simp only [Rp] at w4
      obtain ⟨p, ys, rfl, h1, h2⟩ := w4
      cases r1
      obtain ⟨its, rr, ht, hz⟩ := I4.tuple h1.sq
      have hlen : its.toArray.size = ys.length := by rw [List.size_toArray]; exact rr.length.symm
      refine ⟨"tuple", _, PyProof.Rows.slot_tuple_getitem.lookup, ht.typeIs, ?_⟩
      by_cases hw : HT.sIx ys.length 0 l = 0 ∧ HT.sIx ys.length ys.length u = ys.length
      · refine getItem_tuple_whole ht (Heap.IsSliceOf.new ..) pl pu (by rw [hlen]; exact hw) ⟨.ref p, H3, I4, rfl, ?_⟩
        have ew : cutD xs l u = xs := by
          rw [← h2.length] at hw
          unfold cutD
          rw [hw.1, hw.2]; simp
        have q4 : P (.tup (cutD xs l u)) M3 := q3
        rw [ew] at q4
        exact Fin.now g3 q4 w3
      · refine HT.getItem_tuple_cut ht (Heap.IsSliceOf.new ..) pl pu (by rw [hlen]; exact hw) ?_ (by rw [hlen]; exact hz)
        rw [hlen]
        refine ep_tup (t' := s3.toks) I4 g3 (xs := cutV ys l u) (ds := cutD xs l u) ?_ (Nat.le_trans (cutV_length ys l u) hz) (cut_rps h2) q3
        exact (rr.drop (HT.sIx ys.length 0 l)).take _
    · rename_i xs
      obtain ⟨p, ys, rfl, h1, h2⟩ := w3
      refine sl_list pins _ σ H3 _ v vl vu l u _ _ I4 r1 (Heap.IsSliceOf.new ..) pl pu ⟨p, ys, rfl, h1, fun q hp => ?_⟩
      cases o with
      | true => exact fin_lstO g3 hp (cut_rps h2) q3
      | false => exact fin_lst g3 hp (cut_rps h2) q3
  obtain ⟨T, id, hT, ht, hg⟩ := fin
  show wpAny (model X.prog X.w) X.A (subscriptTail e (.Slice lo hi none p2) v (.ref s3.heap.objs.size)) _ X.xe { s3 with heap := s3.heap.push { cls := .type "slice", data := .fields #[vl, vu, .none] } }
  exact tail_any (ops := [.ref s3.heap.objs.size, v]) ht hT (thn hg fun _ _ z => ep_step z (fin_step (pins := pins) (σ := σ) ex)) (by with_unfolding_all rfl)
end

/-! ### a[::-1] -/
section
variable {prog : Program} {w : PySem.World} {A : Around} {E : Value → Shared → Prop} {s : Shared}
theorem fm_congr {α β : Type} {f g : α → Option β} : ∀ {l : List α}, (∀ x, x ∈ l → f x = g x) → l.filterMap f = l.filterMap g
  | [], _ => rfl
  | a :: l, h => by rw [List.filterMap_cons, List.filterMap_cons, h a (by simp), fm_congr fun x hx => h x (by simp [hx])]
theorem rev_pick (xs : Array Value) : ((List.range xs.size).filterMap fun (j : Nat) => xs[((xs.size : Int) - 1 + (j : Int) * -1).toNat]?).toArray = xs.toList.reverse.toArray := by
  have h := PySem.W.krv_pick xs
  unfold slicePick at h
  rw [PySem.W.krv_bounds] at h
  have h2 : ((sliceRange ((xs.size : Int) - 1) (-1) (-1)).filterMap (xs[·]?)).toArray = xs.toList.reverse.toArray := h
  rw [PySem.W.krv_sliceRange, List.filterMap_map] at h2
  rw [← h2]
  congr 1
  apply fm_congr
  intro k hk
  have := List.mem_range.mp hk
  have e : ((xs.size : Int) - 1 + (k : Int) * -1).toNat = xs.size - 1 - k := by omega
  show xs[((xs.size : Int) - 1 + (k : Int) * -1).toNat]? = xs[xs.size - 1 - k]?
  rw [e]
theorem tuple_rev {t sl : Addr} {items : Array Value} {vl vu vs : Value} {Q : Value → Shared → Prop} (ht : IsTup s.heap t items) (hs : s.heap.IsSliceOf sl vl vu vs) (pl : IsPart vl none) (pu : IsPart vu none) (ps : IsPart vs (some (-1)))
    (h : Q (.ref s.heap.objs.size) { s with heap := s.heap.push { cls := .type "tuple", data := .seq items.toList.reverse.toArray } }) (hsz : items.size ≤ sizeLine) : wpAny (model prog w) A (getItem (.ref t) (.ref sl)) Q E s := by
  have hok : sizeOk (.seq items.toList.reverse.toArray) := by show items.toList.reverse.toArray.size ≤ sizeLine; rw [List.size_toArray, List.length_reverse]; simpa using hsz
  have ⟨os, hos, hcs, hds⟩ := hs
  have hTs : s.TypeIs (.ref sl) "slice" := ⟨os, hos, hcs⟩
  unfold getItem
  try with_reducible refine wpAny_holding ?_
  first | refine wpAny_bind (wpAny_pure ?_) | skip
  refine wpAny_bind (wpAny_sequenceKey ht.typeIs (by decide) ?_)
  refine wpAny_bind (wpAny_callSpecial?_slot (name := Str.ofString "__getitem__") ht.typeIs PyProof.Rows.slot_tuple_getitem (wpAny_call_entry PyProof.Rows.slot_tuple_getitem ht.typeIs PyProof.Rows.entry_tuple_getitem ?_ (PyProof.Rows.args_tuple_getitem _ _)))
  show wpAny (model prog w) _ (Builtin.Tuple.tupleItemsOf (.ref t) >>= _) _ _ s
  refine wpAny_bind (PyProof.Rows.tupleItemsOf_ ht ?_)
  refine wpAny_bind (wpAny_typeOf hTs ?_)
  rw [if_pos (by decide)]
  have happ : ∀ {Q' : Int × Int × Nat → Shared → Prop} {A' : Around} {E' : Value → Shared → Prop}, Q' ((items.size : Int) - 1, -1, items.size) s → wpAny (model prog w) A' (Builtin.Slice.sliceApplied (.ref sl) (pure (items.size : Int))) Q' E' s := by
    intro Q' A' E' h'
    unfold Builtin.Slice.sliceApplied Builtin.Slice.sliceFields
    refine wpAny_bind (wpAny_bind (wpAny_field hos hds (x := vl) rfl (wpAny_bind (wpAny_field hos hds (x := vu) rfl (wpAny_bind (wpAny_field hos hds (x := vs) rfl (wpAny_pure ?_)))))))
    refine wpAny_bind (HT.slicePart_ ps ?_)
    show wpAny (model prog w) _ (if ((-1 : Int) == 0) = true then _ else _) _ _ s
    rw [if_neg (by decide)]
    refine wpAny_bind (HT.slicePart_ pl (wpAny_bind (HT.slicePart_ pu (wpAny_bind (wpAny_pure ?_)))))
    show wpAny (model prog w) _ (match Builtin.Slice.sliceAdjust none none (-1) (items.size : Int) with | (lo, hi) => pure (lo, (-1 : Int), Builtin.Slice.slicePlaces lo hi (-1))) _ _ s
    have ea : Builtin.Slice.sliceAdjust none none (-1) (items.size : Int) = ((items.size : Int) - 1, -1) := by
      unfold Builtin.Slice.sliceAdjust
      simp
    rw [ea]
    have eb : Builtin.Slice.slicePlaces ((items.size : Int) - 1) (-1) (-1) = items.size := by
      unfold Builtin.Slice.slicePlaces
      simp
      omega
    show wpAny (model prog w) _ (pure ((items.size : Int) - 1, (-1 : Int), Builtin.Slice.slicePlaces ((items.size : Int) - 1) (-1) (-1))) _ _ s
    rw [eb]
    exact wpAny_pure h'
  refine wpAny_bind (happ ?_)
  show wpAny (model prog w) _ (if ((((items.size : Int) - 1) == 0 && (-1 : Int) == 1 && items.size == items.size) = true) then _ else _) _ _ s
  rw [if_neg (by simp), rev_pick]
  first
    | exact wpAny_bind (m := Builtin.Tuple.tupleExact _) (wpAny_newObj_type (wpAny_pure ⟨_, rfl, wpAny_pure h⟩) hok)
    | exact wpAny_bind (m := Builtin.Tuple.tupleExact _) (wpAny_newObj_type (wpAny_bind (wpAny_pure (wpAny_pure ⟨_, rfl, wpAny_pure h⟩))) hok)
    | exact wpAny_bind (wpAny_bind (m := Builtin.Tuple.tupleExact _) (wpAny_newObj_type (wpAny_pure (wpAny_pure ⟨_, rfl, wpAny_pure h⟩)) hok))
    | exact wpAny_bind (wpAny_bind (m := Builtin.Tuple.tupleExact _) (wpAny_newObj_type (wpAny_pure ⟨_, rfl, wpAny_pure h⟩) hok))
end
theorem Rps.rev {K : PySem.W.Frag} {F : Addr → Prop} {m : List Addr} {H : Hp} : ∀ {ds : List D} {xs : List V}, Rps K F m H ds xs → Rps K F m H ds.reverse xs.reverse
  | [], _, h => by obtain rfl := Rps.nil_inv h; simp [Rps]
  | d :: ds, _, h => by
    obtain ⟨x, r, rfl, h1, h2⟩ := Rps.cons_inv h
    rw [List.reverse_cons, List.reverse_cons]
    exact (Rps.rev h2).append (Rps.one h1)
def oRev (o : Bool) (a : D) (M : St3) (P : KD) : Prop := match vw M a with
  | .lst xs => if o = true then P (.obj M.length) (M ++ [.lst xs.reverse]) else P (.lst xs.reverse) M
  | .tup xs => P (.tup xs.reverse) M
  | _ => False
def dRev (o : Bool) (te : TD) : TD := fun env M P => te env M fun d M1 => oRev o d M1 P
theorem pd_rev {X : Cx} {c : Ctx} {o : Bool} {e : Expr} {te : TD} {k : Nat} {p1 p2 p3 pos : Pos} (he : PD X c e te) : PD X c (.Subscript e (.Slice none none (some (.UnaryOp .USub (.Constant (.int 1) k p1) p2)) p3) pos) (dRev o te) := by
  refine ⟨fun pins s σ H F m M env P I w r hq => ?_⟩
  refine Subscript_ (thn (he.run pins s σ H F m M env _ I w r hq) fun v s1 ⟨x, H1, I1, r1, d, M1, F1, m1, q1, e1, g1, rp1⟩ => ?_)
  have hst : PO X (some (.UnaryOp .USub (.Constant (.int 1) k p1) p2)) (tPart (tUn (rU fun i => .int (-i)) (tC (.int 1)))) := po_some (pe_un un_neg pe_int)
  refine wpAny_Slice (thn (po_none.run pins s1 σ H1 (fun o H2 => o = none ∧ H2 = H1) I1 ⟨rfl, rfl⟩) fun vl s2 ⟨l, H2, I2, pl, el, e2⟩ => ?_)
  subst el e2
  refine thn (po_none.run pins s2 σ H2 (fun o H3 => o = none ∧ H3 = H2) I2 ⟨rfl, rfl⟩) fun vu s3 ⟨u, H3, I3, pu, eu, e3⟩ => ?_
  subst eu e3
  refine thn (hst.run pins s3 σ H3 (fun o H4 => o = some (-1) ∧ H4 = H3) I3 ⟨1, rfl, -1, rfl, rfl, rfl⟩) fun vs s4 ⟨o', H4, I4, ps, eo, e4⟩ => ?_
  subst eo e4
  have I5 : Inv X pins σ H4 { s4 with heap := s4.heap.push { cls := .type "slice", data := .fields #[vl, vu, vs] } } :=
    I4.kept (t' := s4.toks) fun b ob q => Heap.get?_push_of_some _ q
  have w3 := g1.look rp1
  unfold oRev at q1
  revert q1 w3
  cases vw M1 d <;> intro q1 w3 <;> try (exact False.elim q1)
  · simp only [RpW, Rp] at w3
    obtain ⟨p, xs, rfl, h1, h2⟩ := w3
    cases r1
    obtain ⟨its, rr, ht, hz⟩ := I5.tuple h1.sq
    have hlen := rr.length
    show wpAny (model X.prog X.w) X.A (subscriptTail e (.Slice none none (some (.UnaryOp .USub (.Constant (.int 1) k p1) p2)) p3) (.ref p) (.ref s4.heap.objs.size)) _ X.xe { s4 with heap := s4.heap.push { cls := .type "slice", data := .fields #[vl, vu, vs] } }
    refine tail_any (ops := [.ref p, .ref s4.heap.objs.size]) ht.typeIs (PyProof.Rows.slot_tuple_getitem.lookup) ?_ (by with_unfolding_all rfl)
    refine tuple_rev ht (Heap.IsSliceOf.new _ vl vu vs) pl pu ps ?_ (by rw [List.size_toArray]; omega)
    exact ep_step (ep_tup (its := its.reverse) (t' := s4.toks) I5 g1 rr.reverse (by rw [List.length_reverse]; exact hz) h2.rev q1) (fin_step (pins := pins) (σ := σ) e1)
  · obtain ⟨p, xs, rfl, h1, h2⟩ := w3
    cases r1
    obtain ⟨its, rr, ht, hz⟩ := I5.list h1
    have hlen := rr.length
    show wpAny (model X.prog X.w) X.A (subscriptTail e (.Slice none none (some (.UnaryOp .USub (.Constant (.int 1) k p1) p2)) p3) (.ref p) (.ref s4.heap.objs.size)) _ X.xe { s4 with heap := s4.heap.push { cls := .type "slice", data := .fields #[vl, vu, vs] } }
    refine tail_any (ops := [.ref p, .ref s4.heap.objs.size]) ht.isList.typeIs (PySem.slot_list_getitem.lookup) ?_ (by with_unfolding_all rfl)
    refine wpAny_getItem_list_slice ht.isList (Heap.IsSliceOf.new _ vl vu vs) pl pu ps (by decide) ?_ (by rw [List.size_toArray]; omega)
    rw [PySem.W.krv_pick]
    refine ⟨.ref _, _, I5.laid (t' := s4.toks) (o := .lst xs.reverse) (fun b ob q => Heap.get?_push_of_some _ q) (Nat.le_refl _) ⟨by rw [List.length_reverse]; exact hz, _, 0, rr.reverse, Heap.get?_push_size _ rfl⟩, rfl, fin_step (pins := pins) (σ := σ) e1 _ _ ?_⟩
    cases o with
    | true => exact fin_lstO g1 (I5.hok.fresh (Nat.le_refl _)) h2.rev q1
    | false => exact fin_lst g1 (I5.hok.fresh (Nat.le_refl _)) h2.rev q1
end L3
namespace PySem
theorem meets_enum_tup (a : Addr) (items : Array Value) (n : Nat) (dct : Option Addr) (sl : Array (Option Value)) :
    Meets (Builtin.«enumerate.__new__» ⟨[.type "enumerate", .ref a], []⟩) (fun _ R s => s.heap.get? a = some { cls := .type "tuple", dict := dct, data := .seq items n, slots := sl } ∧
      R (.ok (.ret (.ref (s.heap.push { cls := .type "tuple_iterator", data := .fields #[.ref a, .int 0 0] }).objs.size)))
        { s with heap := (s.heap.push { cls := .type "tuple_iterator", data := .fields #[.ref a, .int 0 0] }).push { cls := .type "enumerate", data := .fields #[.none, .bool false, .ref s.heap.objs.size, rawInt 0, .none, .none] } }) := .of_wp fun prog w A R s h => by
  obtain ⟨hp, g, d, tk, os⟩ := s; obtain ⟨hl, h⟩ := h
  have hsub := sub_enumerate
  have hT : Heap.IsTuple (Shared.heap ⟨hp, g, d, tk, os⟩) a items := ⟨_, hl, rfl, n, rfl⟩
  wp_walk using wpAny_loadPart' hl
  refine wpAny_stack_any fun st => wpAny_pure ?_
  split
  · rename_i k _ _ _ _ _
    cases (k == Value.type "enumerate")
    · wp_walk using wpAny_loadPart' hl, wpAny_pyIter_tuple hT
      exact ⟨_, rfl, h⟩
    · wp_walk using wpAny_loadPart' hl, wpAny_pyIter_tuple hT
      exact ⟨_, rfl, h⟩
  · wp_walk using wpAny_loadPart' hl, wpAny_pyIter_tuple hT
    exact ⟨_, rfl, h⟩
theorem call_enum_tup {prog : Program} {w : World} {A : Around} {E : Value → Shared → Prop} {s : Shared} {l : Addr} {items : Array Value} {Q : Value → Shared → Prop} (hL : s.heap.IsTuple l items)
    (h : ∀ h', IsEnum h' (s.heap.objs.size + 1) s.heap.objs.size 0 .none → h'.IsTupleIter s.heap.objs.size l 0 → h'.objs.size = s.heap.objs.size + 2 →
      (∀ b o, s.heap.get? b = some o → h'.get? b = some o) → Q (.ref (s.heap.objs.size + 1)) { s with heap := h' }) : wpAny (model prog w) A (call (.type "enumerate") [.ref l]) Q E s := by
  obtain ⟨⟨k, dct, dt, sl⟩, hl, hc, n, hd⟩ := hL
  replace hc : k = .type "tuple" := hc
  replace hd : dt = .seq items n := hd
  subst hc hd
  refine callType_new F.called_enumerate (by decide) (F.typeCall_enumerate_1 _) (F.newCall_enumerate_1 _) (fun obj => F.args_object_init_2 obj _) F.entry_enumerate_new (meets_enum_tup l items n dct sl) ⟨hl, ?_⟩
  have hz : (s.heap.push { cls := .type "tuple_iterator", data := .fields #[.ref l, .int 0 0] }).objs.size = s.heap.objs.size + 1 := Heap.size_push ..
  show _ ∧ _
  rw [hz]
  have he : IsEnum ((s.heap.push { cls := .type "tuple_iterator", data := .fields #[.ref l, .int 0 0] }).push { cls := .type "enumerate", data := .fields #[.none, .bool false, .ref s.heap.objs.size, rawInt 0, .none, .none] }) (s.heap.objs.size + 1) s.heap.objs.size 0 .none := by
    have := Heap.get?_push_size (s.heap.push { cls := .type "tuple_iterator", data := .fields #[.ref l, .int 0 0] }) (o := { cls := .type "enumerate", data := .fields #[.none, .bool false, .ref s.heap.objs.size, rawInt 0, .none, .none] }) rfl
    rw [hz] at this; exact this
  have hi : ((s.heap.push { cls := .type "tuple_iterator", data := .fields #[.ref l, .int 0 0] }).push { cls := .type "enumerate", data := .fields #[.none, .bool false, .ref s.heap.objs.size, rawInt 0, .none, .none] }).IsTupleIter s.heap.objs.size l 0 :=
    ⟨_, Heap.get?_push_of_some _ (Heap.get?_push_size _ rfl), rfl, rfl⟩
  exact ⟨⟨_, he, rfl⟩, h _ he hi (by rw [Heap.size_push, hz]) fun b o q => Heap.get?_push_of_some _ (Heap.get?_push_of_some _ q)⟩
end PySem

namespace L3
open PySem PySem.Spec PyProof.Rows L2
/-! ### enumerate, zip, items: each pair a new tuple whose object is known -/
/-- a new pair -/
def NewPr (H : Hp) (x y : V) (v : V) (H' : Hp) : Prop := ∃ T its, v = .ref T ∧ H T = none ∧ H' = upd H T (.frz (tupO its) (.tup [x, y]))
theorem newPr {X : Cx} {pins : List (Addr × Obj)} {σ : L2.St} {H : Hp} {s : Shared} {h' : Heap} {t' : Nat} {ch : List Addr} {x y : V} {u1 u2 : Value} (I : Inv X pins σ H s) (k : ∀ b o, b ∉ ch → s.heap.get? b = some o → h'.get? b = some o) (hf : ∀ b ∈ ch, FpOk X pins H b)
    (hT : h'.get? s.heap.objs.size = some { cls := .type "tuple", data := .seq #[u1, u2] }) (r1 : RelV x u1) (r2 : RelV y u2) : Inv X pins σ (upd H s.heap.objs.size (.frz (tupO [u1, u2]) (.tup [x, y]))) { s with heap := h', toks := t' } ∧
      NewPr H x y (.ref s.heap.objs.size) (upd H s.heap.objs.size (.frz (tupO [u1, u2]) (.tup [x, y]))) :=
  ⟨I.turnedNew (ch := ch) k hf (Nat.le_refl _) ⟨hT, by show 2 ≤ sizeLine; decide, [u1, u2], .cons r1 (.cons r2 .nil), ⟨_, hT, rfl, _, rfl⟩⟩, _, _, rfl, I.hok.fresh (Nat.le_refl _), rfl⟩
theorem pr_none {H : Hp} {T : Addr} {o : HO} {s : Shared} {ch : List Addr} {X : Cx} {pins : List (Addr × Obj)} (hf : ∀ b ∈ ch, FpOk X pins H b) (hl : ∀ b ∈ ch, b < T) : ∀ b ∈ ch, upd H T o b = none := fun b hb => by
  rw [upd_ne (Nat.ne_of_lt (hl b hb))]; exact (hf b hb).1
def IteL (K : PySem.W.Frag) (a : Addr) : It :=
  ⟨fun i H => ∃ (xs : List V) (x : V), SqL K H a xs ∧ xs[i]? = some x, fun i H v H' => ∃ x, NewPr H (.int (i : Nat)) x v H' ∧ ∀ xs, SqL K H a xs → xs[i]? = some x, fun i H => ∃ xs : List V, SqL K H a xs ∧ xs.length ≤ i⟩
def IteT (K : PySem.W.Frag) (a : Addr) : It :=
  ⟨fun i H => ∃ (xs : List V) (x : V), SqT K H a xs ∧ xs[i]? = some x, fun i H v H' => ∃ x, NewPr H (.int (i : Nat)) x v H' ∧ ∀ xs, SqT K H a xs → xs[i]? = some x, fun i H => ∃ xs : List V, SqT K H a xs ∧ i = xs.length⟩
theorem turn_enumL {P : Program} {w : PySem.World} {K : PySem.W.Frag} {elts : List Expr} {kk : Nat} {tpos : Pos} (a e it : Addr) : Turn P w K (.Tuple elts kk tpos) (IteL K a) [e, it] e (fun i h => (∃ old, IsEnum h e it ((i : Nat) : Int) old) ∧ h.IsListIter it a i ∧ e ≠ it) where
  mem := by simp
  obj := (turn_enum (P := P) (w := w) (K := K) (elts := elts) (kk := kk) (tpos := tpos) a e it).obj
  keep := (turn_enum (P := P) (w := w) (K := K) (elts := elts) (kk := kk) (tpos := tpos) a e it).keep
  self := (turn_enum (P := P) (w := w) (K := K) (elts := elts) (kk := kk) (tpos := tpos) a e it).self
  done := (turn_enum (P := P) (w := w) (K := K) (elts := elts) (kk := kk) (tpos := tpos) a e it).done
  item := by
    intro X hP hw hK hc i pins s σ H E I hf st ⟨xs, x, hq, hx⟩
    subst hP hw hK
    obtain ⟨⟨old, he⟩, hit, hne⟩ := st
    obtain ⟨its, rv, p, hz⟩ := I.list hq
    obtain ⟨u, hu, ru⟩ := rv.get hx
    have hel : e < s.heap.objs.size := Heap.lt_size he
    have hil : it < s.heap.objs.size := let ⟨_, q, _⟩ := hit; Heap.lt_size q
    refine wpAny_pyNext_enum_item he hit p.isList (x := u) (by simpa using hu) hne fun h' ho hit' hT hsz hk => ?_
    refine ⟨_, rfl, wpAny_letOwnedTupleGo_enum (s := { s with heap := h', toks := s.toks + 1 }) ho fun h2 he' sb => ?_⟩
    have hT2 : h2.get? s.heap.objs.size = some { cls := .type "tuple", data := .seq #[.int i s.toks, u] } := (sb.2 _ (Nat.ne_of_gt hel)).trans hT
    obtain ⟨I1, N⟩ := newPr (x := .int (i : Nat)) (t' := s.toks + 1) (ch := [e, it]) I (fun b ob hb q => (sb.2 b (fun z => hb (by simp [z]))).trans (hk b ob (fun z => hb (by simp [z])) (fun z => hb (by simp [z])) q)) hf hT2 ⟨_, rfl⟩ ru
    refine ⟨.ref s.heap.objs.size, _, I1, rfl, ⟨x, N, fun ys hy => by rw [I.list_inj hy hq]; exact hx⟩, ⟨⟨u, ?_⟩, hit'.at fun o q => (sb.2 it (Ne.symm hne)).trans q, hne⟩, pr_none (s := s) hf fun b hb => ?_⟩
    · have e1 : ((i + 1 : Nat) : Int) = (i : Int) + 1 := by omega
      rw [e1]; exact he'
    · have e' : b = e ∨ b = it := by simpa using hb
      rcases e' with z | z <;> · rw [z]; assumption
theorem turn_enumT {P : Program} {w : PySem.World} {K : PySem.W.Frag} {elts : List Expr} {kk : Nat} {tpos : Pos} (a e it : Addr) :
    Turn P w K (.Tuple elts kk tpos) (IteT K a) [e, it] e (fun i h => (∃ old, IsEnum h e it ((i : Nat) : Int) old) ∧ h.IsTupleIter it a i ∧ e ≠ it) where
  mem := by simp
  obj := fun i h st b hb => by
    obtain ⟨⟨old, he⟩, ⟨o, ho, hc, hd⟩, _⟩ := st
    have e' : b = e ∨ b = it := by simpa using hb
    rcases e' with z | z
    · subst z; exact ⟨_, he, fun v q => nomatch q⟩
    · subst z; exact ⟨o, ho, fun v q => by rw [hd] at q; cases q⟩
  keep := fun i h h' st k => let ⟨⟨old, he⟩, hi, hne⟩ := st; ⟨⟨old, k e (by simp) _ he⟩, hi.at fun o q => k it (by simp) o q, hne⟩
  item := by
    intro X hP hw hK hc i pins s σ H E I hf st ⟨xs, x, hq, hx⟩
    subst hP hw hK
    obtain ⟨⟨old, he⟩, hit, hne⟩ := st
    obtain ⟨its, rv, p, hz⟩ := I.tuple hq
    have p' : s.heap.IsTuple a its.toArray := p
    obtain ⟨u, hu, ru⟩ := rv.get hx
    have hel : e < s.heap.objs.size := Heap.lt_size he
    have hil : it < s.heap.objs.size := let ⟨_, q, _⟩ := hit; Heap.lt_size q
    have hai : a ≠ it := fun z => by
      subst z
      obtain ⟨o1, h1, c1, _⟩ := hit
      obtain ⟨o2, h2, c2, _⟩ := p'
      rw [h1] at h2; cases h2
      rw [c1] at c2; exact absurd c2 (by decide)
    have hae : e ≠ a := fun z => by
      subst z
      obtain ⟨o2, h2, c2, _⟩ := p'
      rw [show s.heap.get? e = some _ from he] at h2; cases h2
      exact absurd (show Value.type "enumerate" = Value.type "tuple" from c2) (by decide)
    have hlt : i < its.toArray.size := by rw [List.size_toArray]; exact (List.getElem?_eq_some_iff.mp hu).1
    refine wpAny_pyNext_enum_itemD (Draws.tuple (A := X.A.in1) (show X.A.in1.handled = none from I.ok.hd hc) it a hai its.toArray) he ⟨hit, p'⟩ hlt hne (by simp [hne, hae]) fun y h' tk hy ho hst hT hsz hk => ?_
    have ey : y = u := by
      have : its.toArray[i]? = some u := by simpa using hu
      rw [this] at hy; exact (Option.some.inj hy).symm
    subst ey
    refine ⟨_, rfl, wpAny_letOwnedTupleGo_enum (s := { s with heap := h', toks := tk + 1 }) ho fun h2 he' sb => ?_⟩
    have hT2 : h2.get? s.heap.objs.size = some { cls := .type "tuple", data := .seq #[.int i tk, y] } := (sb.2 _ (Nat.ne_of_gt hel)).trans hT
    obtain ⟨I1, N⟩ := newPr (x := .int (i : Nat)) (t' := tk + 1) (ch := [e, it]) I (fun b ob hb q => (sb.2 b (fun z => hb (by simp [z]))).trans (hk b ob (fun z => hb (by simp [z])) (fun z => hb (by simp [z])) q)) hf hT2 ⟨_, rfl⟩ ru
    refine ⟨.ref s.heap.objs.size, _, I1, rfl, ⟨x, N, fun ys hy => by rw [I.tuple_inj hy hq]; exact hx⟩, ⟨⟨y, ?_⟩, hst.1.at fun o q => (sb.2 it (Ne.symm hne)).trans q, hne⟩, pr_none (s := s) hf fun b hb => ?_⟩
    · have e1 : ((i + 1 : Nat) : Int) = (i : Int) + 1 := by omega
      rw [e1]; exact he'
    · have e' : b = e ∨ b = it := by simpa using hb
      rcases e' with z | z <;> · rw [z]; assumption
  done := by
    intro X hP hw hK hc i pins s σ H E I hf st ⟨xs, hq, hx⟩
    subst hP hw hK
    obtain ⟨⟨old, he⟩, hit, hne⟩ := st
    obtain ⟨its, rv, p, hz⟩ := I.tuple hq
    have p' : s.heap.IsTuple a its.toArray := p
    obtain ⟨f0, f1, f2, f3, f4, f5⟩ := hf it (by simp)
    have hl := rv.length
    have hai : a ≠ it := fun z => by
      subst z
      obtain ⟨o1, h1, c1, _⟩ := hit
      obtain ⟨o2, h2, c2, _⟩ := p'
      rw [h1] at h2; cases h2
      rw [c1] at c2; exact absurd c2 (by decide)
    have ei : i = its.toArray.size := by rw [List.size_toArray, ← hl]; exact hx
    subst ei
    exact wpAny_pyNext_enum_endD (Draws.tuple (A := X.A.in1) (show X.A.in1.handled = none from I.ok.hd hc) it a hai its.toArray) he ⟨hit, p'⟩ fun h' eb => ⟨rfl, I.turned (t' := s.toks) (fun b o hb q => eb b o hb q) f0 f1 f3 f4 f5⟩
  self := fun A i s Q E st h => let ⟨⟨_, he⟩, _⟩ := st; wpAny_pyIter_enum he h
/-! zip -/
def IzL (K : PySem.W.Frag) (a b : Addr) : It :=
  ⟨fun i H => ∃ (xs ys : List V) (x y : V), SqL K H a xs ∧ SqL K H b ys ∧ xs[i]? = some x ∧ ys[i]? = some y, fun i H v H' => ∃ x y, NewPr H x y v H' ∧ (∀ xs, SqL K H a xs → xs[i]? = some x) ∧ ∀ ys, SqL K H b ys → ys[i]? = some y, (Itz K a b).stop⟩
def IzT (K : PySem.W.Frag) (a b : Addr) : It :=
  ⟨fun i H => ∃ (xs ys : List V) (x y : V), SqT K H a xs ∧ SqT K H b ys ∧ xs[i]? = some x ∧ ys[i]? = some y, fun i H v H' => ∃ x y, NewPr H x y v H' ∧ (∀ xs, SqT K H a xs → xs[i]? = some x) ∧ ∀ ys, SqT K H b ys → ys[i]? = some y, (RZ.ItzT K a b).stop⟩
theorem five {z TI TO i1 i2 c : Addr} {n : Nat} (h1 : z < n) (h2 : TI < n) (h3 : TO < n) (h4 : i1 < n) (h5 : i2 < n) (hc : c ∈ [z, TI, TO, i1, i2]) : c < n := by
  have e' : c = z ∨ c = TI ∨ c = TO ∨ c = i1 ∨ c = i2 := by simpa using hc
  rcases e' with q | q | q | q | q <;> · rw [q]; assumption
theorem turn_zipL {P : Program} {w : PySem.World} {K : PySem.W.Frag} {elts : List Expr} {kk : Nat} {tpos : Pos} {a b z TI TO i1 i2 : Addr} (D : ZipApart z TI TO i1 i2 a b) :
    Turn P w K (.Tuple elts kk tpos) (IzL K a b) [z, TI, TO, i1, i2] z (fun i h => IsZip h z TI TO .none ∧ IsPair h TI (.ref i1) (.ref i2) ∧ (∃ x y, IsPair h TO x y) ∧ h.IsListIter i1 a i ∧ h.IsListIter i2 b i) where
  mem := by simp
  obj := (turn_zip (P := P) (w := w) (K := K) (elts := elts) (kk := kk) (tpos := tpos) D).obj
  keep := (turn_zip (P := P) (w := w) (K := K) (elts := elts) (kk := kk) (tpos := tpos) D).keep
  self := (turn_zip (P := P) (w := w) (K := K) (elts := elts) (kk := kk) (tpos := tpos) D).self
  done := (turn_zip (P := P) (w := w) (K := K) (elts := elts) (kk := kk) (tpos := tpos) D).done
  item := by
    intro X hP hw hK hc i pins s σ H E I hf st ⟨xs, ys, x, y, hqx, hqy, hx, hy⟩
    subst hP hw hK
    obtain ⟨hz, hTI, ⟨x0, y0, hTO⟩, h1, h2⟩ := st
    obtain ⟨its, rv, p, _⟩ := I.list hqx
    obtain ⟨its2, rv2, p2, _⟩ := I.list hqy
    obtain ⟨u, hu, ru⟩ := rv.get hx
    obtain ⟨u2, hu2, ru2⟩ := rv2.get hy
    have hzl : z < s.heap.objs.size := Heap.lt_size hz
    have l1 : i1 < s.heap.objs.size := let ⟨_, e, _⟩ := h1; Heap.lt_size e
    have l2 : i2 < s.heap.objs.size := let ⟨_, e, _⟩ := h2; Heap.lt_size e
    refine wpAny_pyNext_zip_item D hz hTI hTO h1 h2 p.isList p2.isList (x := u) (y := u2) (by simpa using hu) (by simpa using hu2) fun h' z' TO' h1' h2' hT hsz hk => ?_
    refine ⟨_, rfl, wpAny_letOwnedTupleGo_zip (s := { s with heap := h' }) z' fun h3 z3 sb => ?_⟩
    have hT2 : h3.get? s.heap.objs.size = some { cls := .type "tuple", data := .seq #[u, u2] } := (sb.2 _ (Nat.ne_of_gt hzl)).trans hT
    obtain ⟨I1, N⟩ := newPr (t' := s.toks) (ch := [z, TI, TO, i1, i2]) I (fun c o hb q => (sb.2 c (fun q' => hb (by simp [q']))).trans (hk c o (fun q' => hb (by simp [q'])) (fun q' => hb (by simp [q'])) (fun q' => hb (by simp [q'])) (fun q' => hb (by simp [q'])) q)) hf hT2 ru ru2
    refine ⟨.ref s.heap.objs.size, _, I1, rfl, ⟨x, y, N, fun l hl => by rw [I.list_inj hl hqx]; exact hx, fun l hl => by rw [I.list_inj hl hqy]; exact hy⟩, ⟨z3, ?_, ⟨u, u2, ?_⟩, ?_, ?_⟩, pr_none (s := s) hf fun c hcm => five hzl (Heap.lt_size hTI) (Heap.lt_size hTO) l1 l2 hcm⟩
    · exact (sb.2 _ D.TIz).trans (hk _ _ D.TIz D.TITO D.TIi1 D.TIi2 hTI)
    · exact (sb.2 _ D.TOz).trans TO'
    · exact h1'.at fun o q => (sb.2 _ D.i1z).trans q
    · exact h2'.at fun o q => (sb.2 _ D.i2z).trans q
theorem turn_zipTT {P : Program} {w : PySem.World} {K : PySem.W.Frag} {elts : List Expr} {kk : Nat} {tpos : Pos} {a b z TI TO i1 i2 : Addr} (D : ZipApart z TI TO i1 i2 a b) :
    Turn P w K (.Tuple elts kk tpos) (IzT K a b) [z, TI, TO, i1, i2] z (fun i h => IsZip h z TI TO .none ∧ IsPair h TI (.ref i1) (.ref i2) ∧ (∃ x y, IsPair h TO x y) ∧ h.IsTupleIter i1 a i ∧ h.IsTupleIter i2 b i) where
  mem := by simp
  obj := (RZ.turn_zipT (P := P) (w := w) (K := K) (elts := elts) (kk := kk) (tpos := tpos) D).obj
  keep := (RZ.turn_zipT (P := P) (w := w) (K := K) (elts := elts) (kk := kk) (tpos := tpos) D).keep
  self := (RZ.turn_zipT (P := P) (w := w) (K := K) (elts := elts) (kk := kk) (tpos := tpos) D).self
  done := (RZ.turn_zipT (P := P) (w := w) (K := K) (elts := elts) (kk := kk) (tpos := tpos) D).done
  item := by
    intro X hP hw hK hc i pins s σ H E I hf st ⟨xs, ys, x, y, hqx, hqy, hx, hy⟩
    subst hP hw hK
    obtain ⟨hz, hTI, ⟨x0, y0, hTO⟩, h1, h2⟩ := st
    obtain ⟨its, rv, p, _⟩ := I.tuple hqx
    obtain ⟨its2, rv2, p2, _⟩ := I.tuple hqy
    obtain ⟨u, hu, ru⟩ := rv.get hx
    obtain ⟨u2, hu2, ru2⟩ := rv2.get hy
    have hzl : z < s.heap.objs.size := Heap.lt_size hz
    have l1 : i1 < s.heap.objs.size := let ⟨_, e, _⟩ := h1; Heap.lt_size e
    have l2 : i2 < s.heap.objs.size := let ⟨_, e, _⟩ := h2; Heap.lt_size e
    refine RZ.pyNext_zipT_item D hz hTI hTO h1 h2 p p2 (x := u) (y := u2) (by simpa using hu) (by simpa using hu2) fun h' z' TO' h1' h2' hT hsz hk => ?_
    refine ⟨_, rfl, wpAny_letOwnedTupleGo_zip (s := { s with heap := h' }) z' fun h3 z3 sb => ?_⟩
    have hT2 : h3.get? s.heap.objs.size = some { cls := .type "tuple", data := .seq #[u, u2] } := (sb.2 _ (Nat.ne_of_gt hzl)).trans hT
    obtain ⟨I1, N⟩ := newPr (t' := s.toks) (ch := [z, TI, TO, i1, i2]) I (fun c o hb q => (sb.2 c (fun q' => hb (by simp [q']))).trans (hk c o (fun q' => hb (by simp [q'])) (fun q' => hb (by simp [q'])) (fun q' => hb (by simp [q'])) (fun q' => hb (by simp [q'])) q)) hf hT2 ru ru2
    refine ⟨.ref s.heap.objs.size, _, I1, rfl, ⟨x, y, N, fun l hl => by rw [I.tuple_inj hl hqx]; exact hx, fun l hl => by rw [I.tuple_inj hl hqy]; exact hy⟩, ⟨z3, ?_, ⟨u, u2, ?_⟩, ?_, ?_⟩, pr_none (s := s) hf fun c hcm => five hzl (Heap.lt_size hTI) (Heap.lt_size hTO) l1 l2 hcm⟩
    · exact (sb.2 _ D.TIz).trans (hk _ _ D.TIz D.TITO D.TIi1 D.TIi2 hTI)
    · exact (sb.2 _ D.TOz).trans TO'
    · exact h1'.at fun o q => (sb.2 _ D.i1z).trans q
    · exact h2'.at fun o q => (sb.2 _ D.i2z).trans q
/-! items -/
def IiD (d : Addr) (o : Obj) (kvs : List (Key × V)) : It := ⟨(Iti d o kvs).go, fun i H x H' => ∃ k v, kvs[i]? = some (k, v) ∧ NewPr H (kV k) v x H', (Iti d o kvs).stop⟩
theorem turn_itemsD {P : Program} {w : PySem.World} {K : PySem.W.Frag} {d : Addr} {o : Obj} {es : Array DictEntry} {ep : Nat} {kvs : List (Key × V)} {elts : List Expr} {kk : Nat} {tpos : Pos} (it : Addr) (hod : o.data = .dict es ep) :
    Turn P w K (.Tuple elts kk tpos) (IiD d o kvs) [it] it (fun i h => ∃ ok ov, IsItemIter h it d i kvs.length ep ok ov) where
  mem := by simp
  obj := (turn_items (P := P) (w := w) (K := K) (kvs := kvs) (elts := elts) (kk := kk) (tpos := tpos) (d := d) it hod).obj
  keep := (turn_items (P := P) (w := w) (K := K) (kvs := kvs) (elts := elts) (kk := kk) (tpos := tpos) (d := d) it hod).keep
  self := (turn_items (P := P) (w := w) (K := K) (kvs := kvs) (elts := elts) (kk := kk) (tpos := tpos) (d := d) it hod).self
  done := (turn_items (P := P) (w := w) (K := K) (kvs := kvs) (elts := elts) (kk := kk) (tpos := tpos) (d := d) it hod).done
  item := by
    intro X hP hw hK hc i pins s σ H E I hf st ⟨hd, hi⟩
    subst hP hw hK
    obtain ⟨hs, hgd, hx, es', ep', vs, hdt, hsz, kv, hm⟩ := I.frzK hd
    obtain ⟨rfl, rfl⟩ := dict_ep hod hdt
    obtain ⟨⟨k, v⟩, hkv⟩ : ∃ p, kvs[i]? = some p := ⟨kvs[i], List.getElem?_eq_getElem hi⟩
    obtain ⟨u, hu, ru⟩ := kv_get kv hkv
    have hl : kvs.length = vs.length := Paired.length kv
    obtain ⟨ok, ov, he⟩ := st
    rw [hl] at he
    have hlt : it < s.heap.objs.size := Heap.lt_size he
    refine wpAny_pyNext_items_item he hm hu fun key h' hkey ho hT hz hk => ?_
    refine ⟨_, rfl, wpAny_letOwnedTupleGo_items (s := { s with heap := h' }) ho fun h2 he' sb => ?_⟩
    have hT2 : h2.get? s.heap.objs.size = some { cls := .type "tuple", data := .seq #[key, u] } := (sb.2 _ (Nat.ne_of_gt hlt)).trans hT
    obtain ⟨I1, N⟩ := newPr (t' := s.toks) (ch := [it]) I (fun b ob hb e => (sb.2 b (by simpa using hb)).trans (hk b ob (by simpa using hb) e)) hf hT2 (relV_key (show keyIs k key = true from hkey)) ru
    refine ⟨.ref s.heap.objs.size, _, I1, rfl, ⟨k, v, hkv, N⟩, ⟨key, u, ?_⟩, pr_none (s := s) hf fun b hb => ?_⟩
    · rw [hl]; exact he'
    · have e : b = it := by simpa using hb
      rw [e]; exact hlt
end L3
namespace L3
open PySem PySem.Spec PyProof.Rows L2
/-! ### enumerate, zip: the items -/
def enumD (ds : List D) : List D := ds.mapIdx fun i d => .tup [.int (i : Nat), d]
def zipD (as bs : List D) : List D := List.zipWith (fun a b => D.tup [a, b]) as bs
theorem enumD_get {ds : List D} {i : Nat} {d : D} (h : (enumD ds)[i]? = some d) : ∃ d0, ds[i]? = some d0 ∧ d = .tup [.int (i : Nat), d0] := by
  unfold enumD at h
  rw [List.getElem?_mapIdx] at h
  cases q : ds[i]? with
  | none => rw [q] at h; cases h
  | some d0 => rw [q] at h; cases h; exact ⟨d0, rfl, rfl⟩
theorem zipD_get {as bs : List D} {i : Nat} {d : D} (h : (zipD as bs)[i]? = some d) : ∃ a b, as[i]? = some a ∧ bs[i]? = some b ∧ d = .tup [a, b] := by
  unfold zipD at h
  rw [List.getElem?_zipWith] at h
  cases q : as[i]? with
  | none => rw [q] at h; cases h
  | some a =>
    cases q2 : bs[i]? with
    | none => rw [q, q2] at h; cases h
    | some b => rw [q, q2] at h; cases h; exact ⟨a, b, rfl, rfl, rfl⟩
section
variable {K : PySem.W.Frag} {F1 : Addr → Prop} {m1 : List Addr} {H1 : Hp} {M1 : St3} {chk chk2 : St3 → Prop} {a b : Addr} {items : List D}
theorem pair_laid {F : Addr → Prop} {m : List Addr} {H H' : Hp} {M : St3} (g : Good K F m H M) {d e : D} {x y v : V} (n : NewPr H x y v H') (r1 : Rp K F m H d x) (r2 : Rp K F m H e y) : Ext F m H F m H' ∧ Good K F m H' M ∧ Rp K F m H' (.tup [d, e]) v := by
  obtain ⟨T, its, rfl, hT, rfl⟩ := n
  have ex : Ext F m H F m (upd H T (.frz (tupO its) (.tup [x, y]))) := Ext.laid hT
  refine ⟨ex, g.laid hT, ?_⟩
  simp only [Rp]
  exact ⟨T, [x, y], rfl, .inl ⟨_, upd_same, rfl⟩, Rps.cons (Rp.ext g ex _ _ r1) (Rps.one (Rp.ext g ex _ _ r2))⟩
theorem itOk_enumL (ok : ItOk K F1 m1 H1 chk (Itl K a) items) : ItOk K F1 m1 H1 chk (IteL K a) (enumD items) := by
  refine ⟨fun F m H M i d ex g hc hi => ?_, fun F m H M ex g hc => ?_⟩
  · obtain ⟨d0, h0, rfl⟩ := enumD_get hi
    obtain ⟨go, yl⟩ := ok.item F m H M i d0 ex g hc h0
    refine ⟨go, fun v H' ⟨x, N, hx⟩ => ?_⟩
    obtain ⟨F', e', g', r'⟩ := yl x H ⟨rfl, hx⟩
    obtain ⟨e2, g2, r2⟩ := pair_laid g' N (d := .int (i : Nat)) (by simp [Rp]) r'
    exact ⟨F', e'.trans e2, g2, r2⟩
  · have := ok.done F m H M ex g hc
    show ∃ xs : List V, SqL K H a xs ∧ xs.length ≤ (enumD items).length
    rw [show (enumD items).length = items.length by simp [enumD]]
    exact this
theorem itOk_enumT (g1 : Good K F1 m1 H1 M1) {xs : List V} (h : SqT K H1 a xs) (r : Rps K F1 m1 H1 items xs) : ItOk K F1 m1 H1 (fun _ => True) (IteT K a) (enumD items) := by
  refine ⟨fun F m H M i d ex g hc hi => ?_, fun F m H M ex g hc => ⟨xs, SqT.stb ex.toStb h, by simp [enumD, r.length]⟩⟩
  obtain ⟨d0, h0, rfl⟩ := enumD_get hi
  obtain ⟨x, hx, rx⟩ := r.get h0
  refine ⟨⟨xs, x, SqT.stb ex.toStb h, hx⟩, fun v H' ⟨x', N, hx'⟩ => ?_⟩
  have := hx' xs (SqT.stb ex.toStb h)
  rw [hx] at this; cases this
  obtain ⟨e2, g2, r2⟩ := pair_laid g N (d := .int (i : Nat)) (by simp [Rp]) (Rp.stb ex.toStb _ _ rx)
  exact ⟨F, e2, g2, r2⟩
theorem itOk_zipL {items2 : List D} (ok : ItOk K F1 m1 H1 chk (Itl K a) items) (ok2 : ItOk K F1 m1 H1 chk2 (Itl K b) items2) : ItOk K F1 m1 H1 (fun M => chk M ∧ chk2 M) (IzL K a b) (zipD items items2) := by
  refine ⟨fun F m H M i d ex g hc hi => ?_, fun F m H M ex g hc => ?_⟩
  · obtain ⟨d0, e0, h0, h1, rfl⟩ := zipD_get hi
    obtain ⟨⟨xs, x, l1, l2⟩, yl⟩ := ok.item F m H M i d0 ex g hc.1 h0
    obtain ⟨⟨ys, y, l3, l4⟩, yl2⟩ := ok2.item F m H M i e0 ex g hc.2 h1
    refine ⟨⟨xs, ys, x, y, l1, l3, l2, l4⟩, fun v H' ⟨x', y', N, hx, hy⟩ => ?_⟩
    obtain ⟨F', e', g', r'⟩ := yl x' H ⟨rfl, hx⟩
    have e2 : Stz F1 m1 H1 F' m H := ex.trans (e'.stz g)
    obtain ⟨_, yl3⟩ := ok2.item F' m H M i e0 e2 g' hc.2 h1
    obtain ⟨F'', e'', g'', r''⟩ := yl3 y' H ⟨rfl, hy⟩
    obtain ⟨e4, g4, r4⟩ := pair_laid g'' N (Rp.ext g' e'' _ _ r') r''
    exact ⟨F'', (e'.trans e'').trans e4, g4, r4⟩
  · obtain ⟨xs, h1, h2⟩ := ok.done F m H M ex g hc.1
    obtain ⟨ys, h3, h4⟩ := ok2.done F m H M ex g hc.2
    refine ⟨xs, ys, h1, h3, ?_⟩
    have : (zipD items items2).length = min items.length items2.length := by simp [zipD]
    rw [this]
    rcases Nat.le_total items.length items2.length with z | z
    · left; omega
    · right; omega
theorem itOk_zipT (g1 : Good K F1 m1 H1 M1) {xs ys : List V} {items2 : List D} (h : SqT K H1 a xs) (r : Rps K F1 m1 H1 items xs) (h' : SqT K H1 b ys) (r' : Rps K F1 m1 H1 items2 ys) : ItOk K F1 m1 H1 (fun _ => True) (IzT K a b) (zipD items items2) := by
  refine ⟨fun F m H M i d ex g hc hi => ?_, fun F m H M ex g hc => ⟨xs, ys, SqT.stb ex.toStb h, SqT.stb ex.toStb h', ?_⟩⟩
  · obtain ⟨d0, e0, h0, h1, rfl⟩ := zipD_get hi
    obtain ⟨x, hx, rx⟩ := r.get h0
    obtain ⟨y, hy, ry⟩ := r'.get h1
    refine ⟨⟨xs, ys, x, y, SqT.stb ex.toStb h, SqT.stb ex.toStb h', hx, hy⟩, fun v H' ⟨x', y', N, hx', hy'⟩ => ?_⟩
    have q1 := hx' xs (SqT.stb ex.toStb h)
    rw [hx] at q1; cases q1
    have q2 := hy' ys (SqT.stb ex.toStb h')
    rw [hy] at q2; cases q2
    obtain ⟨e2, g2, r2⟩ := pair_laid g N (Rp.stb ex.toStb _ _ rx) (Rp.stb ex.toStb _ _ ry)
    exact ⟨F, e2, g2, r2⟩
  · have : (zipD items items2).length = min items.length items2.length := by simp [zipD]
    rw [this, ← r.length, ← r'.length]
    rcases Nat.le_total items.length items2.length with z | z
    · left; omega
    · right; omega
end
/-- a list, frozen or shared -/
def listOf (M : St3) : D → Option (List D × (St3 → Prop))
  | .lst ds => some (ds, fun _ => True)
  | .obj n => match M[n]? with
    | some (.lst ds) => some (ds, fun M => M[n]? = some (.lst ds))
    | _ => none
  | _ => none
theorem listOf_ok {K : PySem.W.Frag} {F1 : Addr → Prop} {m1 : List Addr} {H1 : Hp} {M1 : St3} (g : Good K F1 m1 H1 M1) {d : D} {v : V} {q : List D × (St3 → Prop)} (r : Rp K F1 m1 H1 d v) (h : listOf M1 d = some q) :
    ∃ a xs, v = .ref a ∧ SqL K H1 a xs ∧ ItOk K F1 m1 H1 q.2 (Itl K a) q.1 := by
  cases d with
  | lst ds =>
    cases h
    simp only [Rp] at r
    obtain ⟨a, xs, rfl, h1, h2⟩ := r
    exact ⟨a, xs, rfl, h1.sq, itOk_lst g h1 h2⟩
  | obj n =>
    simp only [listOf] at h
    split at h
    · rename_i ds hM
      cases h
      simp only [Rp] at r
      obtain ⟨a, hm, rfl⟩ := r
      obtain ⟨xs, h1, h2⟩ := (g.at_ n a _ hm hM).2
      exact ⟨a, xs, rfl, SqL.of h1, itOk_obj g hm⟩
    · cases h
  | _ => cases h
/-- enumerate(e) -/
def dEnum (t : TDA) : TDI := fun env M P => t env M fun ds M1 => (∃ d q, ds = [d] ∧ listOf M1 d = some q ∧ P (enumD q.1) q.2 M1) ∨ ∃ xs, ds = [.tup xs] ∧ P (enumD xs) (fun _ => True) M1
/-- zip(a, b): two lists, two tuples -/
def dZip (t : TDA) : TDI := fun env M P => t env M fun ds M1 => (∃ d e q q2, ds = [d, e] ∧ listOf M1 d = some q ∧ listOf M1 e = some q2 ∧ P (zipD q.1 q2.1) (fun M => q.2 M ∧ q2.2 M) M1) ∨ ∃ xs ys, ds = [.tup xs, .tup ys] ∧ P (zipD xs ys) (fun _ => True) M1
section
variable {X : Cx} {c : Ctx} {e e2 : Expr} {elts : List Expr} {kk : Nat} {tpos p pos : Pos} {t : TDA}
theorem pdi_enum (hg : Gl X "enumerate") (hm : X.mg "enumerate" = none) (ha : PDA X c [e] t) (hs : starEach [e] X.env = [(false, eval e X.env)]) : PDI X c (.Tuple elts kk tpos) (.Call (.Name "enumerate" p) [e] [] pos) (dEnum t) := by
  refine ⟨fun pins s σ H F m M env P I w r ht => ?_⟩
  refine Call_ (ld_blt I hg hm boot_enumerate (PyProof.Rows.callWith_type1 (thn (ha.run pos pins s σ H F m M env _ I w r ht) fun us s1 ⟨vs, H1, I1, r1, ds, M1, F1, m1, q1, e1, g1, rp⟩ => ?_) hs rfl))
  rcases q1 with ⟨d, q, rfl, hd, q1⟩ | ⟨xs, rfl, q1⟩
  · obtain ⟨v, rfl, p1⟩ := rps1 rp
    obtain ⟨a, xs, rfl, hq, ok⟩ := listOf_ok g1 p1 hd
    cases r1 with
    | cons r rr =>
    cases rr
    cases r
    obtain ⟨its, rv, p', hz⟩ := I1.list hq
    refine call_enumerate_list p'.isList fun h' he hit hsz hk => wpAny_pyIter_enum he ?_
    have I2 : Inv X pins σ H1 { s1 with heap := h' } := I1.kept (t' := s1.toks) hk
    refine ⟨s1.heap.objs.size + 1, [s1.heap.objs.size + 1, s1.heap.objs.size], _, _, H1, rfl, I2, turn_enumL a (s1.heap.objs.size + 1) s1.heap.objs.size, ⟨⟨.none, he⟩, hit, Nat.succ_ne_self _⟩, fun b hb => ?_, _, _, M1, F1, m1, q1, e1, g1, itOk_enumL ok⟩
    have e' : b = s1.heap.objs.size + 1 ∨ b = s1.heap.objs.size := by simpa using hb
    have hle : s1.heap.objs.size ≤ b := by
      rcases e' with z | z
      · rw [z]; exact Nat.le_succ _
      · rw [z]; exact Nat.le_refl _
    exact I1.fpOk hle (I1.hok.fresh hle)
  · obtain ⟨v, rfl, p1⟩ := rps1 rp
    simp only [Rp] at p1
    obtain ⟨a, vs, rfl, h1, h2⟩ := p1
    cases r1 with
    | cons r rr =>
    cases rr
    cases r
    obtain ⟨its, rv, p', hz⟩ := I1.tuple h1.sq
    refine call_enum_tup (items := its.toArray) p' fun h' he hit hsz hk => wpAny_pyIter_enum he ?_
    have I2 : Inv X pins σ H1 { s1 with heap := h' } := I1.kept (t' := s1.toks) hk
    refine ⟨s1.heap.objs.size + 1, [s1.heap.objs.size + 1, s1.heap.objs.size], _, _, H1, rfl, I2, turn_enumT a (s1.heap.objs.size + 1) s1.heap.objs.size, ⟨⟨.none, he⟩, hit, Nat.succ_ne_self _⟩, fun b hb => ?_, _, _, M1, F1, m1, q1, e1, g1, itOk_enumT g1 h1.sq h2⟩
    have e' : b = s1.heap.objs.size + 1 ∨ b = s1.heap.objs.size := by simpa using hb
    have hle : s1.heap.objs.size ≤ b := by
      rcases e' with z | z
      · rw [z]; exact Nat.le_succ _
      · rw [z]; exact Nat.le_refl _
    exact I1.fpOk hle (I1.hok.fresh hle)
theorem pdi_zip (hg : Gl X "zip") (hm : X.mg "zip" = none) (ha : PDA X c [e, e2] t) (hs : starEach [e, e2] X.env = (false, eval e X.env) :: starEach [e2] X.env) (hpl : (backTo pos (starEach [e2] X.env)).any (·.1) = false) :
    PDI X c (.Tuple elts kk tpos) (.Call (.Name "zip" p) [e, e2] [] pos) (dZip t) := by
  refine ⟨fun pins s σ H F m M env P I w r ht => ?_⟩
  refine Call_ (ld_blt I hg hm PyProof.Rows.boot_zip (PyProof.Rows.callWith_type1 (thn (ha.run pos pins s σ H F m M env _ I w r ht) fun us s1 ⟨vs, H1, I1, r1, ds, M1, F1, m1, q1, e1, g1, rp⟩ => ?_) hs hpl))
  have fresh5 : ∀ c, c ∈ [s1.heap.objs.size + 4, s1.heap.objs.size + 2, s1.heap.objs.size + 3, s1.heap.objs.size, s1.heap.objs.size + 1] → FpOk X pins H1 c := fun c hcm => by
    have e' : c = s1.heap.objs.size + 4 ∨ c = s1.heap.objs.size + 2 ∨ c = s1.heap.objs.size + 3 ∨ c = s1.heap.objs.size ∨ c = s1.heap.objs.size + 1 := by simpa using hcm
    have hle : s1.heap.objs.size ≤ c := by
      rcases e' with z | z | z | z | z <;> rw [z] <;> first | exact Nat.le_add_right _ _ | exact Nat.le_refl _
    exact I1.fpOk hle (I1.hok.fresh hle)
  rcases q1 with ⟨d, f, q, q2, rfl, h1, h2, q3⟩ | ⟨xs, ys, rfl, q3⟩
  · obtain ⟨v, u, rfl, p1, p2⟩ := rps2 rp
    obtain ⟨u1, u2, rfl, r2, r3⟩ := vals2 r1
    obtain ⟨a, xs, rfl, l1, ok1⟩ := listOf_ok g1 p1 h1
    obtain ⟨b, ys, rfl, l2, ok2⟩ := listOf_ok g1 p2 h2
    cases r2; cases r3
    obtain ⟨its, rv, t1, _⟩ := I1.list l1
    obtain ⟨its2, rv2, t2, _⟩ := I1.list l2
    refine call_zip_2 t1.isList t2.isList fun h' hz hTI hTO k1 k2 hsz hk => wpAny_pyIter_zip hz ?_
    have I2 : Inv X pins σ H1 { s1 with heap := h' } := I1.kept (t' := s1.toks) hk
    exact ⟨s1.heap.objs.size + 4, [s1.heap.objs.size + 4, s1.heap.objs.size + 2, s1.heap.objs.size + 3, s1.heap.objs.size, s1.heap.objs.size + 1], _, _, H1, rfl, I2, turn_zipL (PySem.W.ktu_apart s1.heap.objs.size a b t1.lt t2.lt), ⟨hz, hTI, ⟨_, _, hTO⟩, k1, k2⟩, fresh5, _, _, M1, F1, m1, q3, e1, g1, itOk_zipL ok1 ok2⟩
  · obtain ⟨v, u, rfl, p1, p2⟩ := rps2 rp
    obtain ⟨u1, u2, rfl, r2, r3⟩ := vals2 r1
    simp only [Rp] at p1 p2
    obtain ⟨a, xs', rfl, l1, rr1⟩ := p1
    obtain ⟨b, ys', rfl, l2, rr2⟩ := p2
    cases r2; cases r3
    obtain ⟨its, rv, t1, _⟩ := I1.tuple l1.sq
    obtain ⟨its2, rv2, t2, _⟩ := I1.tuple l2.sq
    have ⟨o1, ho1, _⟩ := t1
    have ⟨o2, ho2, _⟩ := t2
    refine RZ.call_zipT (show s1.heap.IsTuple a its.toArray from t1) (show s1.heap.IsTuple b its2.toArray from t2) fun h' hz hTI hTO k1 k2 hsz hk => wpAny_pyIter_zip hz ?_
    have I2 : Inv X pins σ H1 { s1 with heap := h' } := I1.kept (t' := s1.toks) hk
    exact ⟨s1.heap.objs.size + 4, [s1.heap.objs.size + 4, s1.heap.objs.size + 2, s1.heap.objs.size + 3, s1.heap.objs.size, s1.heap.objs.size + 1], _, _, H1, rfl, I2, turn_zipTT (PySem.W.ktu_apart s1.heap.objs.size a b (Heap.lt_size ho1) (Heap.lt_size ho2)), ⟨hz, hTI, ⟨_, _, hTO⟩, k1, k2⟩, fresh5, _, _, M1, F1, m1, q3, e1, g1, itOk_zipT g1 l1.sq rr1 l2.sq rr2⟩
end

/-! ### dicts that are walked: locked for good -/
section
variable {K : PySem.W.Frag} {F : Addr → Prop} {m : List Addr} {H : Hp} {M : St3} {a : Addr} {kvs : List (Key × V)} {od : Obj}
theorem Ext.lock (hF : F a ∨ a ∈ m) (h : H a = some (.dK kvs)) : Ext F m H F m (upd H a (.frz od (.dK kvs))) :=
  ⟨fun _ h => h, fun _ h => .inl h, ⟨[], by simp, fun _ h => by cases h⟩, fun b o e hb => by
    by_cases z : b = a
    · subst z
      rw [h] at e; cases e
      exact .inr ⟨kvs, od, rfl, hF.resolve_right hb, upd_same⟩
    · rw [upd_ne z]; exact .inl e, fun b e => by
    by_cases z : b = a
    · subst z; rw [upd_same]; simp
    · rw [upd_ne z]; exact e, fun b o u e => by
    rw [upd_ne (fun z : b = a => by rw [z, h] at e; cases e)]; exact e⟩
theorem Good.lockF (g : Good K F m H M) (hF : F a) (h : H a = some (.dK kvs)) : Good K F m (upd H a (.frz od (.dK kvs))) M := by
  have ex : Ext F m H F m (upd H a (.frz od (.dK kvs))) := Ext.lock (.inl hF) h
  refine ⟨g.len, g.nd, fun i b o h1 h2 => ?_, fun b hb => ?_⟩
  · obtain ⟨h3, h4⟩ := g.at_ i b o h1 h2
    have hne : b ≠ a := fun z => h3 (by rw [z]; exact hF)
    exact ⟨h3, RpM.ext g ex h4 (upd_ne hne)⟩
  · by_cases z : b = a
    · subst z; exact .inr ⟨kvs, .inr ⟨od, upd_same⟩⟩
    · unfold Rd; rw [upd_ne z]; exact g.fz b hb
theorem Good.lockM (g : Good K F m H M) {n : Nat} {ks : List Key} {ds : List D} (hn : m[n]? = some a) (h : H a = some (.dK kvs)) (hk : kvs.map (·.1) = ks) (r : Rps K F m H ds (kvs.map (·.2))) : Good K F m (upd H a (.frz od (.dK kvs))) (M.set n (.lck ks ds)) := by
  have hm : a ∈ m := List.mem_of_getElem? hn
  have ex : Ext F m H F m (upd H a (.frz od (.dK kvs))) := Ext.lock (.inr hm) h
  refine ⟨by simp [g.len], g.nd, fun j b o h1 h2 => ?_, fun b hb => ?_⟩
  · by_cases hij : j = n
    · subst hij
      rw [hn] at h1; cases h1
      rw [List.getElem?_set_self (by rw [← g.len]; exact (List.getElem?_eq_some_iff.mp hn).1)] at h2
      cases h2
      exact ⟨(g.notIn hm).1, kvs, .inr ⟨od, upd_same⟩, hk, Rps.ext g ex _ _ r⟩
    · rw [List.getElem?_set_ne (Ne.symm hij)] at h2
      obtain ⟨h3, h4⟩ := g.at_ j b o h1 h2
      have hne : b ≠ a := fun z => by
        subst z
        obtain ⟨l1, e1⟩ := List.getElem?_eq_some_iff.mp h1
        obtain ⟨l2, e2⟩ := List.getElem?_eq_some_iff.mp hn
        exact hij ((List.getElem_inj g.nd).mp (e1.trans e2.symm))
      exact ⟨h3, RpM.ext g ex h4 (upd_ne hne)⟩
  · have hne : b ≠ a := fun z => (g.notIn hm).1 (z ▸ hb)
    unfold Rd; rw [upd_ne hne]; exact g.fz b hb
end
/-- a value, and a dict locked behind it -/
def tLk (t : TE) : TE := fun σ H Q => t σ H fun v H1 => Q v H1 ∨ ∃ d kvs, v = .ref d ∧ H1 d = some (.dK kvs) ∧ ∀ od, Q v (upd H1 d (.frz od (.dK kvs)))
theorem pe_lk {X : Cx} {e : Expr} {t : TE} (h : PE X e t) : PE X e (tLk t) := ⟨fun pins s σ H Q I q => thn (h.run pins s σ H _ I q) fun u s1 ⟨v, H1, I1, r, q1⟩ => by
  rcases q1 with q1 | ⟨d, kvs, ev, hd, q1⟩
  · exact ⟨v, H1, I1, r, q1⟩
  · obtain ⟨od, I2⟩ := I1.lock hd True.intro
    exact ⟨v, _, I2, r, q1 od⟩⟩
/-- the dict that a value is, and the store with it locked -/
def dicOf (M : St3) : D → Option ((List Key × List D) × St3)
  | .dic ks ds => some ((ks, ds), M)
  | .obj n => match M[n]? with
    | some (.dic ks ds) => some ((ks, ds), M.set n (.lck ks ds))
    | some (.lck ks ds) => some ((ks, ds), M)
    | _ => none
  | _ => none
def pairsD : List Key → List D → List D
  | k :: ks, d :: ds => .tup [kD k, d] :: pairsD ks ds
  | _, _ => []
theorem kD_rp {K : PySem.W.Frag} {F : Addr → Prop} {m : List Addr} {H : Hp} {k : Key} (h : ∀ x, k = .inr x → x.length ≤ sizeLine) : Rp K F m H (kD k) (kV k) := by
  cases k with
  | inl i => simp [kD, kV, Rp]
  | inr x => simp only [kD, kV, Rp]; exact ⟨trivial, h x rfl⟩
def keysOk (ks : List Key) : Prop := ∀ x, Sum.inr x ∈ ks → x.length ≤ sizeLine
theorem keysOk_rp {K : PySem.W.Frag} {F : Addr → Prop} {m : List Addr} {H : Hp} {ks : List Key} {k : Key} (h : keysOk ks) (hk : k ∈ ks) : Rp K F m H (kD k) (kV k) := kD_rp fun x z => h x (by rw [← z]; exact hk)
theorem pairsD_get : ∀ {ks : List Key} {ds : List D} {i : Nat} {d : D}, (pairsD ks ds)[i]? = some d → ∃ k e, ks[i]? = some k ∧ ds[i]? = some e ∧ d = .tup [kD k, e]
  | [], _, _, _, h => by simp [pairsD] at h
  | _ :: _, [], _, _, h => by simp [pairsD] at h
  | k :: ks, d :: ds, 0, _, h => by simp [pairsD] at h; exact ⟨k, d, rfl, rfl, h.symm⟩
  | k :: ks, d :: ds, i + 1, _, h => by simp only [pairsD, List.getElem?_cons_succ] at h ⊢; exact pairsD_get h
theorem pairsD_len : ∀ {ks : List Key} {ds : List D}, ks.length = ds.length → (pairsD ks ds).length = ks.length
  | [], _, _ => rfl
  | _ :: _, [], h => by simp at h
  | k :: ks, d :: ds, h => by simp only [pairsD, List.length_cons]; rw [pairsD_len (by simpa using h)]
theorem dicOf_ok {K : PySem.W.Frag} {F : Addr → Prop} {m : List Addr} {H : Hp} {M : St3} (g : Good K F m H M) {d : D} {v : V} {q : (List Key × List D) × St3} (r : Rp K F m H d v) (h : dicOf M d = some q) {Q : VK}
    (hQ : ∀ (a : Addr) (kvs : List (Key × V)) (o : Obj) (H1 : Hp), v = .ref a → H1 a = some (.frz o (.dK kvs)) → kvs.map (·.1) = q.1.1 → Rps K F m H1 q.1.2 (kvs.map (·.2)) → Ext F m H F m H1 → Good K F m H1 q.2 → Q v H1) :
    Q v H ∨ ∃ d kvs, v = .ref d ∧ H d = some (.dK kvs) ∧ ∀ od, Q v (upd H d (.frz od (.dK kvs))) := by
  cases d with
  | dic ks ds =>
    cases h
    simp only [Rp] at r
    obtain ⟨a, kvs, rfl, ⟨hF, hd | ⟨o, hd⟩⟩, hk, h2⟩ := r
    · refine .inr ⟨a, kvs, rfl, hd, fun od => ?_⟩
      have ex : Ext F m H F m (upd H a (.frz od (.dK kvs))) := Ext.lock (.inl hF) hd
      exact hQ a kvs od _ rfl upd_same hk (Rps.ext g ex _ _ h2) ex (g.lockF hF hd)
    · exact .inl (hQ a kvs o H rfl hd hk h2 (Ext.refl _ _ _) g)
  | obj n =>
    simp only [dicOf] at h
    simp only [Rp] at r
    obtain ⟨a, hm, rfl⟩ := r
    split at h
    · rename_i ks ds hM
      cases h
      obtain ⟨kvs, hd, hk, h2⟩ := (g.at_ n a _ hm hM).2
      refine .inr ⟨a, kvs, rfl, hd, fun od => ?_⟩
      have ex : Ext F m H F m (upd H a (.frz od (.dK kvs))) := Ext.lock (.inr (List.mem_of_getElem? hm)) hd
      exact hQ a kvs od _ rfl upd_same hk (Rps.ext g ex _ _ h2) ex (g.lockM hm hd hk h2)
    · rename_i ks ds hM
      cases h
      obtain ⟨kvs, hd | ⟨o, hd⟩, hk, h2⟩ := (g.at_ n a _ hm hM).2
      · refine .inr ⟨a, kvs, rfl, hd, fun od => ?_⟩
        have ex : Ext F m H F m (upd H a (.frz od (.dK kvs))) := Ext.lock (.inr (List.mem_of_getElem? hm)) hd
        refine hQ a kvs od _ rfl upd_same hk (Rps.ext g ex _ _ h2) ex ?_
        have := g.lockM (od := od) hm hd hk h2
        have es : M.set n (.lck ks ds) = M := by
          apply List.ext_getElem?
          intro j
          by_cases hj : n = j
          · subst hj; rw [List.getElem?_set_self (List.getElem?_eq_some_iff.mp hM).1, hM]
          · rw [List.getElem?_set_ne hj]
        rw [es] at this; exact this
      · exact .inl (hQ a kvs o H rfl hd hk h2 (Ext.refl _ _ _) g)
    · cases h
  | _ => cases h
def dItems (te : TD) : TDI := fun env M P => te env M fun d M1 => ∃ q, dicOf M1 d = some q ∧ keysOk q.1.1 ∧ P (pairsD q.1.1 q.1.2) (fun _ => True) q.2
def dKeys (te : TD) : TDI := fun env M P => te env M fun d M1 => ∃ q, dicOf M1 d = some q ∧ keysOk q.1.1 ∧ P (q.1.1.map kD) (fun _ => True) q.2
def dVals (te : TD) : TDI := fun env M P => te env M fun d M1 => ∃ q, dicOf M1 d = some q ∧ P q.1.2 (fun _ => True) q.2
theorem kvs_get {kvs : List (Key × V)} {i : Nat} {k : Key} (h : (kvs.map (·.1))[i]? = some k) : ∃ v, kvs[i]? = some (k, v) := by
  rw [List.getElem?_map] at h
  cases q : kvs[i]? with
  | none => rw [q] at h; cases h
  | some p => rw [q] at h; cases h; exact ⟨p.2, rfl⟩
section
variable {X : Cx} {c : Ctx} {e : Expr} {tg : Expr} {elts : List Expr} {kk : Nat} {tpos apos cpos : Pos} {te : TD}
def iItemsD (td : TE) : TI := fun σ H R => td σ H fun x H1 => ∃ d o kvs, x = .ref d ∧ H1 d = some (.frz o (.dK kvs)) ∧ R (IiD d o kvs) H1
theorem pi_itemsD {td : TE} (he : PE X e td) (hbase : attributeBase e "items" X.env (eval e X.env) = eval e X.env) (hline : (apos.endLine == cpos.line) = true) : PI X (.Tuple elts kk tpos) (.Call (.Attribute e "items" apos) [] [] cpos) (iItemsD td) := by
  refine ⟨fun pins s σ H R I h => ?_⟩
  refine wpAny_Call_method (T := "dict") (id := "dict.items") hbase rfl hline PySem.F.plainAttrs_dict PySem.F.slot_dict_items PySem.F.type_dict_items (thn (he.run pins s σ H _ I h) fun u s1 ⟨x, H1, I1, rx, d, o, kvs, ex, hd, q⟩ => ?_)
  subst ex
  obtain rfl : u = Value.ref d := rx
  obtain ⟨hs, hgd, hx, es, ep, vs, hdt, hsz, kv, hm⟩ := I1.frzK hd
  have hl : kvs.length = vs.length := Paired.length kv
  refine ⟨hm.dictOf.typeIs, hm.dictOf.mapOf.noDict, ?_⟩
  have I2 : Inv X pins σ H1 { s1 with heap := s1.heap.push { cls := .type "dict_items", data := .fields #[.ref d] } } := I1.kept (t' := s1.toks) fun b ob q => Heap.get?_push_of_some _ q
  have fin : wpAny (model X.prog X.w) X.A (pyIter (.ref s1.heap.objs.size)) (PIE X pins σ (.Tuple elts kk tpos) R) X.xe { s1 with heap := s1.heap.push { cls := .type "dict_items", data := .fields #[.ref d] } } := by
    refine wpAny_pyIter_items (d := d) (knd := mixKind X.prog X.w) ⟨_, Heap.get?_push_size _ rfl, rfl, rfl⟩ (hm.push _) (pi_one (tk := s1.toks) I2 _ (turn_itemsD _ hdt) ⟨.none, .none, ?_⟩ q)
    rw [hl]; exact Heap.get?_push_size _ rfl
  show wpAny (model X.prog X.w) _ (callWith cpos (.builtin "dict.items") [.ref d] [] []) _ X.xe s1
  exact method_meetsIn PySem.F.slot_dict_items PySem.F.entry_dict_items rfl (PySem.evalArgs_none ⟨rfl, hm.dictOf.typeIs, PySem.F.args_dict_items_1 _, _, meets_dict_items (mixKind X.prog X.w) d hs, ⟨vs, hm.dictOf⟩, fin⟩)
theorem pdi_items (he : PD X c e te) (hbase : attributeBase e "items" X.env (eval e X.env) = eval e X.env) (hline : (apos.endLine == cpos.line) = true) : PDI X c (.Tuple elts kk tpos) (.Call (.Attribute e "items" apos) [] [] cpos) (dItems te) :=
  PDI.of (pi_itemsD (pe_lk he.pe) hbase hline) fun σ H F m M env P w r ht => ⟨F, m, M, env, _, w, r, ht, fun v H1 ⟨d, M1, F1, m1, ⟨q, hq, hko, p⟩, e1, g1, rp⟩ => by
    refine dicOf_ok g1 rp hq (Q := fun x H2 => ∃ d o kvs, x = V.ref d ∧ H2 d = some (.frz o (.dK kvs)) ∧ ∃ items chk M' F' m', P items chk M' ∧ Ext F m H F' m' H2 ∧ Good X.K F' m' H2 M' ∧ ItOk X.K F' m' H2 chk (IiD d o kvs) items) fun a kvs o H2 ev hd hk h2 ex g2 => ⟨a, o, kvs, ev, hd, _, _, q.2, F1, m1, p, e1.trans ex, g2, ?_⟩
    refine ⟨fun F' m' H' M' i d' e' g' _ hi => ?_, fun F' m' H' M' e' g' _ => ⟨e'.z _ _ _ hd, ?_⟩⟩
    · obtain ⟨k, e0, hk0, he0, rfl⟩ := pairsD_get hi
      rw [← hk] at hk0
      obtain ⟨v0, hv0⟩ := kvs_get hk0
      refine ⟨⟨e'.z _ _ _ hd, (List.getElem?_eq_some_iff.mp hv0).1⟩, fun v' H'' ⟨k', v', hkv, N⟩ => ?_⟩
      rw [hv0] at hkv; cases hkv
      obtain ⟨x, hx, rx⟩ := h2.get he0
      rw [List.getElem?_map, hv0] at hx; cases hx
      obtain ⟨e4, g4, r4⟩ := pair_laid g' N (keysOk_rp (k := k) hko (by rw [← hk]; exact List.mem_of_getElem? hk0)) (Rp.stb e'.toStb _ _ rx)
      exact ⟨F', e4, g4, r4⟩
    · have hl := h2.length
      rw [pairsD_len (by rw [← hk, hl]; simp), ← hk]; simp⟩
theorem pdi_keys (he : PD X c e te) : PDI X c tg e (dKeys te) :=
  PDI.of (pi_keys (pe_lk he.pe)) fun σ H F m M env P w r ht => ⟨F, m, M, env, _, w, r, ht, fun v H1 ⟨d, M1, F1, m1, ⟨q, hq, hko, p⟩, e1, g1, rp⟩ => by
    refine dicOf_ok g1 rp hq (Q := fun x H2 => ∃ d o, x = V.ref d ∧ ((∃ kvs, H2 d = some (.frz o (.dK kvs)) ∧ ∃ items chk M' F' m', P items chk M' ∧ Ext F m H F' m' H2 ∧ Good X.K F' m' H2 M' ∧ ItOk X.K F' m' H2 chk (Itk d o kvs) items) ∨ ∃ kvs, H2 d = some (.frz o (.dT kvs)) ∧ ∃ items chk M' F' m', P items chk M' ∧ Ext F m H F' m' H2 ∧ Good X.K F' m' H2 M' ∧ ItOk X.K F' m' H2 chk (Itkt d o kvs) items)) fun a kvs o H2 ev hd hk h2 ex g2 => ⟨a, o, ev, .inl ⟨kvs, hd, _, _, q.2, F1, m1, p, e1.trans ex, g2, ?_⟩⟩
    refine ⟨fun F' m' H' M' i d' e' g' _ hi => ?_, fun F' m' H' M' e' g' _ => ⟨e'.z _ _ _ hd, ?_⟩⟩
    · rw [List.getElem?_map] at hi
      cases hk0 : q.1.1[i]? with
      | none => rw [hk0] at hi; cases hi
      | some k =>
        rw [hk0] at hi; cases hi
        rw [← hk] at hk0
        obtain ⟨v0, hv0⟩ := kvs_get hk0
        refine ⟨⟨e'.z _ _ _ hd, (List.getElem?_eq_some_iff.mp hv0).1⟩, fun v' H'' ⟨eH, k', v', hkv, ev'⟩ => ?_⟩
        subst ev' eH
        rw [hv0] at hkv; cases hkv
        exact ⟨F', Ext.refl _ _ _, g', keysOk_rp (k := k) hko (by rw [← hk]; exact List.mem_of_getElem? hk0)⟩
    · rw [← hk]; simp⟩
theorem pdi_values (he : PD X c e te) (hbase : attributeBase e "values" X.env (eval e X.env) = eval e X.env) (hline : (apos.endLine == cpos.line) = true) : PDI X c tg (.Call (.Attribute e "values" apos) [] [] cpos) (dVals te) :=
  PDI.of (pi_values (pe_lk he.pe) hbase hline) fun σ H F m M env P w r ht => ⟨F, m, M, env, _, w, r, ht, fun v H1 ⟨d, M1, F1, m1, ⟨q, hq, p⟩, e1, g1, rp⟩ => by
    refine dicOf_ok g1 rp hq (Q := fun x H2 => ∃ d o kvs, x = V.ref d ∧ H2 d = some (.frz o (.dK kvs)) ∧ ∃ items chk M' F' m', P items chk M' ∧ Ext F m H F' m' H2 ∧ Good X.K F' m' H2 M' ∧ ItOk X.K F' m' H2 chk (Itd d o kvs) items) fun a kvs o H2 ev hd hk h2 ex g2 => ⟨a, o, kvs, ev, hd, _, _, q.2, F1, m1, p, e1.trans ex, g2, ?_⟩
    refine ⟨fun F' m' H' M' i d' e' g' _ hi => ?_, fun F' m' H' M' e' g' _ => ⟨e'.z _ _ _ hd, ?_⟩⟩
    · obtain ⟨x, hx, rx⟩ := h2.get hi
      rw [List.getElem?_map] at hx
      cases hv0 : kvs[i]? with
      | none => rw [hv0] at hx; cases hx
      | some kv =>
        rw [hv0] at hx; cases hx
        refine ⟨⟨e'.z _ _ _ hd, (List.getElem?_eq_some_iff.mp hv0).1⟩, fun v' H'' ⟨eH, k', hkv⟩ => ?_⟩
        subst eH
        rw [hv0] at hkv; cases hkv
        exact ⟨F', Ext.refl _ _ _, g', Rp.stb e'.toStb _ _ rx⟩
    · have hl := h2.length; rw [hl]; simp⟩
end
end L3
namespace L2
open PySem PySem.Spec PyProof.Rows
theorem tuple_keys_none : typeLookup (.type "tuple") "keys" = pure none := am_miss_of_fast (by first | decide +kernel | rfl)
section
variable {prog : Program} {w : World} {A : Around} {E : Value → Shared → Prop}
/-- a tuple without a dict has no attribute 'keys' -/
theorem miss_tup {s : Shared} {a : Addr} {o : Obj} {xs : Array Value} {k : Nat} {Q : Option Value → Shared → Prop} (hx : s.heap.get? a = some o) (hc : o.cls = .type "tuple") (hdat : o.data = .seq xs k) (hd : o.dict = none) (hA : A.handled = none)
    (h : ∀ h' tk, (∀ b ob, s.heap.get? b = some ob → h'.get? b = some ob) → Q none { s with heap := h', toks := tk }) : wpAny (model prog w) A (getAttr? (.ref a) "keys") Q E s := by
  obtain ⟨cl, dct, dat, sl⟩ := o
  simp only at hc hdat hd
  subst hc hdat hd
  obtain ⟨hp, g, d, tk, os⟩ := s
  have hT : ∀ tk', (⟨hp, g, d, tk', os⟩ : Shared).TypeIs (.ref a) "tuple" := fun _ => ⟨_, hx, rfl⟩
  have f0 := tuple_keys_none
  have fn : (["__module__", "__name__", "__qualname__", "__doc__", "__annotations__"] : List Str).contains "keys" = false := by decide +kernel
  have fz : ("keys" : Str).length + 100 ≤ sizeLine := by first | size_fits | decide +kernel
  have f1 := sub_AttributeError
  have f3 := PySem.F.slot_tuple_getattribute.lookup
  have f4 := PySem.F.slot_tuple_getattribute.bind (.ref a)
  have f5 := am_tuple_getattr_none
  unfold getAttr? getAttrBy? getAttrBy
  repeat (any_goals (first | assumption | exact hT _ | ((with_reducible show wpAny _ _ (call (Value.builtin "tuple.__getattribute__") _ _) _ _ _); refine call_meets PySem.F.slot_tuple_getattribute (hT _) am_entry_tuple_getattribute (PySem.F.args_tuple_getattribute_2 _ _) (meets_getattribute_miss_tuple a xs k sl "keys" _ f0 fn fz) ⟨hx, hA, fun h' tk' e hx' => ?_⟩) | wp_step))
  obtain ⟨t', u', he⟩ := hx'.there
  show wpAny (model prog w) _ (getattributeRaised _ _ _ _ _ _ _) _ _ _
  unfold getattributeRaised
  repeat (any_goals (first | assumption | wp_step))
  all_goals first | exact h _ _ hx'.keeps | (dsimp only; repeat (any_goals (first | assumption | exact h _ _ hx'.keeps | wp_step)))
theorem pairs_loopT {R : Result → Shared → Prop} {S I l : Addr} {items : Array Value} {res : Value} (hh : A.handled = none) (hlI : l ≠ I) (hSI : S ≠ I) (hSl : S ≠ l) :
    ∀ (rest : List (Key × Value)) (i : Nat) (acc : List (Key × Value)) (ix : Int) (t : Tok) (s : Shared), items.size = i + rest.length → acc.length + rest.length ≤ sizeLine →
      (∀ (j : Nat) (q : Key × Value), rest[j]? = some q → ∃ (b : Addr) (u : Value), items[i + j]? = some (.ref b) ∧ b ≠ S ∧ b ≠ I ∧ IsTup s.heap b #[u, q.2] ∧ keyIs q.1 u = true) →
      s.heap.IsTupleIter I l i → s.heap.IsTuple l items → s.heap.DictOf (mixKind prog w) S acc →
      (∀ h' tk, h'.DictOf (mixKind prog w) S (merged acc rest) → (∀ b o, b ≠ S → b ≠ I → s.heap.get? b = some o → h'.get? b = some o) → R (.ok (.ret res)) { s with heap := h', toks := tk }) →
      codeAny (model prog w) A (.builtin "dict.update.loop" ⟨[.ref S, .ref I, .int ix t, res], []⟩) R s
  | [], i, acc, ix, t, s, hsz, hln, ht, hit, hl, hm, hR => by
    refine codeAny_builtin ud_entry ?_
    rw [Around.under_plainId ud_plain _]
    show wpAny (model prog w) A.in1 (pyNext (.ref I) >>= _) _ _ s
    refine wpAny_bind (wpAny_pyNext_tuple_end (A := A.in1) hh hit hl (by first | exact Array.getElem?_eq_none (Nat.le_of_eq hsz) | (simp at hsz; simp; omega)) fun h' he => ?_)
    show wpAny (model prog w) A.in1 (Builtin.Dict.addKeywords S [] >>= _) _ _ _
    exact wpAny_bind (wpAny_pure (wpAny_pure (hR h' s.toks (hm.extBut he hSI) fun b o _ hb e => he b o hb e)))
  | q :: rest, i, acc, ix, t, s, hsz, hln, ht, hit, hl, hm, hR => by
    obtain ⟨b, u, hb, hbS, hbI, htup, hk⟩ := ht 0 q rfl
    rw [List.length_cons] at hsz hln
    refine codeAny_builtin ud_entry ?_
    rw [Around.under_plainId ud_plain _]
    show wpAny (model prog w) A.in1 (pyNext (.ref I) >>= _) _ _ s
    refine wpAny_bind (wpAny_pyNext_tuple_item (x := .ref b) hit hl (by simpa using hb) fun h1 hit1 hs1 => ?_)
    have ht1 : IsTup h1 b #[u, q.2] := htup.extBut hs1.extBut hbI
    have hl1 : h1.IsTuple l items := hl.extBut hs1.extBut hlI
    have hm1 : h1.DictOf (mixKind prog w) S acc := hm.extBut hs1.extBut hSI
    have ⟨o, ho, hc, n, hd⟩ := ht1
    show wpAny (model prog w) A.in1 (holding [Value.ref b] _ >>= _) _ _ _
    refine wpAny_bind (wpAny_holding (wpAny_bind (wpAny_tryCatch ?_)))
    unfold Builtin.Dict.pairItems
    refine wpAny_bind (wpAny_typeOf (T := "tuple") ⟨o, ho, hc⟩ ?_)
    rw [if_pos (by first | decide | rfl | simp)]
    refine wpAny_bind (wpAny_seqItems ho hd (wpAny_pure ?_))
    show wpAny (model prog w) A.in1 (holding [u, q.2] (dictSet S u q.2)) _ _ _
    refine wpAny_holding (wpAny_dictSet_pairs (knd := mixKind prog w) (k := q.1) hk hm1 (fun h2 hm2 hs2 => ?_) (by omega))
    refine wpAny_pure ⟨plainId_quiet ud_plain _, pairs_loopT (items := items) hh hlI hSI hSl rest (i + 1) (stored acc q.1 q.2) (ix + 1) 0 _ (show items.size = i + 1 + rest.length by omega) ?_ (fun j q' e => ?_) ?_ ?_ hm2 fun h' tk hd' k => ?_⟩
    · have := stored_length_le acc q.1 q.2
      omega
    · obtain ⟨b', u', hb', hbS', hbI', htup', hk'⟩ := ht (j + 1) q' (by simpa using e)
      refine ⟨b', u', ?_, hbS', hbI', (htup'.extBut hs1.extBut hbI').extBut hs2.extBut hbS', hk'⟩
      rw [show i + 1 + j = i + (j + 1) by omega]; exact hb'
    · exact hit1.at fun o' e => hs2.extBut I o' (Ne.symm hSI) e
    · exact hl1.extBut hs2.extBut (Ne.symm hSl)
    · exact hR h' tk hd' fun c oc h3 h4 e => k c oc h3 h4 (hs2.extBut c oc h3 (hs1.extBut c oc h4 e))
/-- dict(t) of a tuple of pairs -/
theorem call_dict_tup {s : Shared} {l : Addr} {ol : Obj} {items : Array Value} {n : Nat} {prs : List (Key × Value)} {Q : Value → Shared → Prop} (hh : A.handled = none) (hl : s.heap.get? l = some ol) (hc : ol.cls = .type "tuple") (hd : ol.dict = none)
    (hdat : ol.data = .seq items n) (hsz : items.size = prs.length) (hln : prs.length ≤ sizeLine) (ht : ∀ (j : Nat) (q : Key × Value), prs[j]? = some q → ∃ (b : Addr) (u : Value), items[j]? = some (.ref b) ∧ IsTup s.heap b #[u, q.2] ∧ keyIs q.1 u = true)
    (h : ∀ h' tk, h'.DictOf (mixKind prog w) s.heap.objs.size (merged [] prs) → (∀ b o, s.heap.get? b = some o → h'.get? b = some o) → Q (.ref s.heap.objs.size) { s with heap := h', toks := tk }) : wpAny (model prog w) A (call (.type "dict") [.ref l]) Q E s := by
  refine callType_codes (Q₁ := fun obj s₁ => obj = .ref s.heap.objs.size ∧ s₁ = { s with heap := s.heap.push { cls := .type "dict", data := .dict #[] } }) PySem.F.kt_called_dict (PySem.F.kt_typeCall_dict_1 _) PySem.F.entry_dict_init (kt_code_dict_new _ ⟨rfl, rfl⟩) ?_
  rintro obj s1 ⟨rfl, rfl⟩
  have new : (s.heap.push { cls := .type "dict", data := .dict #[] }).DictOf (mixKind prog w) s.heap.objs.size [] := Heap.DictOf.new s.heap
  have k0 : ∀ b o, s.heap.get? b = some o → (s.heap.push { cls := .type "dict", data := .dict #[] }).get? b = some o := fun b o e => Heap.get?_push_of_some _ e
  refine ⟨new.typeIs, PySem.F.args_dict_init_2 _ _, ?_⟩
  unfold Builtin.«dict.__init__»
  refine wpAny_bind ?_
  unfold Builtin.Dict.selfAndRest
  refine wpAny_bind (wpAny_notOrdered_dict new.typeIs ?_)
  show wpAny (model prog w) _ (pure (s.heap.objs.size, [Value.ref l])) _ _ _
  refine wpAny_pure ?_
  show wpAny (model prog w) _ (Builtin.Dict.updateFrom "dict.__init__" s.heap.objs.size (.ref l) [] .none) _ _ _
  unfold Builtin.Dict.updateFrom
  refine wpAny_bind (wpAny_typeOf (T := "tuple") ⟨ol, k0 _ _ hl, hc⟩ ?_)
  rw [if_pos (by first | decide | rfl | simp)]
  refine wpAny_bind (miss_tup (k0 _ _ hl) hc hdat hd hh fun h1 tk1 hk1 => ?_)
  rw [if_pos (show (none : Option Value).isNone = true from rfl)]
  refine wpAny_bind (wpAny_rule ?_)
  have hl1 : h1.IsTuple l items := ⟨ol, hk1 _ _ (k0 _ _ hl), hc, n, hdat⟩
  have hS1 : s.heap.objs.size < h1.objs.size := Heap.lt_size (hk1 _ _ (show (s.heap.push { cls := .type "dict", data := .dict #[] }).get? s.heap.objs.size = some { cls := .type "dict", data := .dict #[] } from Heap.get?_push_size _ rfl))
  refine wpAny_bind (wpAny_pyIter_tuple hl1 ?_)
  have k2 : ∀ b o, h1.get? b = some o → (h1.push { cls := .type "tuple_iterator", data := .fields #[.ref l, .int 0 0] }).get? b = some o := fun b o e => Heap.get?_push_of_some _ e
  have hlt : l < s.heap.objs.size := Heap.lt_size hl
  have key := pairs_loopT (prog := prog) (w := w) (A := A.in1) (R := wants (fun r s₂ => r = .none ∧ Q (.ref s.heap.objs.size) s₂) E) (S := s.heap.objs.size) (I := h1.objs.size) (l := l) (items := items) (res := Value.none) hh (Nat.ne_of_lt (Nat.lt_trans hlt hS1)) (Nat.ne_of_lt hS1) (Nat.ne_of_gt hlt) prs 0 [] 0 0
    { s with heap := h1.push { cls := .type "tuple_iterator", data := .fields #[.ref l, .int 0 0] }, toks := tk1 } (by rw [hsz, Nat.zero_add]) (by rw [List.length_nil, Nat.zero_add]; exact hln)
    (fun j q e => by
      obtain ⟨b, u, e1, e2, e3⟩ := ht j q e
      exact ⟨b, u, by rw [Nat.zero_add]; exact e1, Nat.ne_of_lt e2.lt, Nat.ne_of_lt (Nat.lt_trans e2.lt hS1), e2.keeps fun c o z => k2 _ _ (hk1 _ _ (k0 _ _ z)), e3⟩)
    ⟨_, Heap.get?_push_size _ rfl, rfl, rfl⟩ (let ⟨o, ho, r⟩ := hl1; ⟨o, k2 _ _ ho, r⟩) ((new.at fun o e => hk1 _ _ e).at fun o e => k2 _ _ e)
    (fun h' tk hd' k => ⟨rfl, h h' tk hd' fun b o e => k b o (Nat.ne_of_lt (Heap.lt_size e)) (Nat.ne_of_lt (Nat.lt_trans (Heap.lt_size e) hS1)) (k2 _ _ (hk1 _ _ (k0 _ _ e)))⟩)
  first
    | exact wpAny_pure ⟨plainId_quiet ud_plain _, key⟩
    | exact wpAny_bind (wpAny_pure (wpAny_pure ⟨plainId_quiet ud_plain _, key⟩))
end
end L2
namespace L3
open PySem PySem.Spec PyProof.Rows L2
/-! ### dicts made -/
def setKD : List Key → List D → Key → D → List D
  | k :: ks, d :: ds, x, e => (if k = x then e else d) :: setKD ks ds x e
  | _, _, _, _ => []
def putKs (ks : List Key) (k : Key) : List Key := if memK k ks = true then ks else ks ++ [k]
def putDs (ks : List Key) (ds : List D) (k : Key) (d : D) : List D := if memK k ks = true then setKD ks ds k d else ds ++ [d]
def mergeD : List Key → List D → List (Key × D) → List Key × List D
  | ks, ds, [] => (ks, ds)
  | ks, ds, p :: r => mergeD (putKs ks p.1) (putDs ks ds p.1 p.2) r
section
variable {K : PySem.W.Frag} {F : Addr → Prop} {m : List Addr} {H : Hp}
theorem memK_map {kvs : List (Key × V)} {k : Key} : memK k (kvs.map (·.1)) = kvs.any fun kv => decide (kv.1 = k) := by
  rw [memK, List.any_map]; rfl
theorem setKD_rps {k : Key} {d : D} {v : V} (rd : Rp K F m H d v) : ∀ {kvs : List (Key × V)} {ds : List D}, Rps K F m H ds (kvs.map (·.2)) →
    Rps K F m H (setKD (kvs.map (·.1)) ds k d) ((kvs.map fun kv => if kv.1 = k then (kv.1, v) else kv).map (·.2))
  | [], ds, h => by simp [setKD, Rps]
  | p :: r, [], h => by have := h.length; simp at this
  | p :: r, e :: ds, h => by
    obtain ⟨x, y, e1, h1, h2⟩ := Rps.cons_inv h
    simp only [List.map_cons, List.cons.injEq] at e1
    obtain ⟨rfl, rfl⟩ := e1
    simp only [List.map_cons, setKD]
    refine Rps.cons ?_ (setKD_rps rd h2)
    by_cases hk : p.1 = k
    · rw [if_pos hk, if_pos hk]; exact rd
    · rw [if_neg hk, if_neg hk]; exact h1
theorem put_fst {kvs : List (Key × V)} {k : Key} {v : V} : (putK kvs k v).map (·.1) = putKs (kvs.map (·.1)) k := by
  unfold putK putKs
  rw [memK_map]
  split
  · rw [List.map_map]
    apply List.map_congr_left
    intro p _
    show (if p.1 = k then (p.1, v) else p).1 = p.1
    split <;> rfl
  · rw [List.map_append]; rfl
theorem put_rps {kvs : List (Key × V)} {ds : List D} {k : Key} {d : D} {v : V} (h : Rps K F m H ds (kvs.map (·.2))) (rd : Rp K F m H d v) : Rps K F m H (putDs (kvs.map (·.1)) ds k d) ((putK kvs k v).map (·.2)) := by
  unfold putK putDs
  rw [memK_map]
  split
  · exact setKD_rps rd h
  · rw [List.map_append]; exact h.append (Rps.one rd)
theorem merge_rps : ∀ {kvs : List (Key × V)} {prs : List (Key × D)} {acc : List (Key × V)} {ads : List D}, kvs.map (·.1) = prs.map (·.1) → Rps K F m H (prs.map (·.2)) (kvs.map (·.2)) → Rps K F m H ads (acc.map (·.2)) →
    (mergeK acc kvs).map (·.1) = (mergeD (acc.map (·.1)) ads prs).1 ∧ Rps K F m H (mergeD (acc.map (·.1)) ads prs).2 ((mergeK acc kvs).map (·.2))
  | [], [], acc, ads, _, _, h => ⟨rfl, h⟩
  | [], _ :: _, _, _, e, _, _ => by simp at e
  | _ :: _, [], _, _, e, _, _ => by simp at e
  | p :: r, q :: t, acc, ads, e, hr, h => by
    simp only [List.map_cons, List.cons.injEq] at e
    simp only [List.map_cons] at hr
    obtain ⟨x, y, e1, h1, h2⟩ := Rps.cons_inv hr
    simp only [List.cons.injEq] at e1
    obtain ⟨rfl, rfl⟩ := e1
    have z := merge_rps (acc := putK acc p.1 p.2) (ads := putDs (acc.map (·.1)) ads p.1 q.2) e.2 h2 (put_rps h h1)
    rw [put_fst] at z
    show (mergeK (putK acc p.1 p.2) r).map (·.1) = _ ∧ _
    simp only [mergeD]
    rw [← e.1]
    exact z
def pairOf : D → Option (Key × D)
  | .tup [k, d] => (keyD k).map fun k => (k, d)
  | _ => none
def pairsOf : List D → Option (List (Key × D))
  | [] => some []
  | d :: ds => match pairOf d, pairsOf ds with
    | some p, some r => some (p :: r)
    | _, _ => none
theorem pairsOf_ok : ∀ {xs : List D} {vs : List V} {prs : List (Key × D)}, Rps K F m H xs vs → pairsOf xs = some prs →
    ∃ (ps : List Addr) (kvs : List (Key × V)), vs = ps.map V.ref ∧ Paired (fun p kv => SqT K H p [kV kv.1, kv.2]) ps kvs ∧ kvs.map (·.1) = prs.map (·.1) ∧ Rps K F m H (prs.map (·.2)) (kvs.map (·.2))
  | [], vs, prs, h, e => by
    obtain rfl := Rps.nil_inv h
    simp only [pairsOf, Option.some.injEq] at e; subst e
    exact ⟨[], [], rfl, .nil, rfl, Rps.nil⟩
  | d :: ds, vs, prs, h, e => by
    obtain ⟨x, r, rfl, h1, h2⟩ := Rps.cons_inv h
    simp only [pairsOf] at e
    cases q1 : pairOf d with
    | none => rw [q1] at e; cases e
    | some p =>
      cases q2 : pairsOf ds with
      | none => rw [q1, q2] at e; cases e
      | some t =>
        rw [q1, q2] at e; cases e
        obtain ⟨ps, kvs, rfl, k1, k2, k3⟩ := pairsOf_ok h2 q2
        unfold pairOf at q1
        split at q1
        · rename_i k0 d0
          cases q3 : keyD k0 with
          | none => rw [q3] at q1; cases q1
          | some k =>
            rw [q3] at q1; cases q1
            simp only [Rp] at h1
            obtain ⟨a, ws, rfl, hq, hr⟩ := h1
            obtain ⟨y, z, rfl, r1, r2⟩ := rps2 hr
            obtain rfl := rp_key r1 q3
            exact ⟨a :: ps, (k, z) :: kvs, rfl, .cons hq.sq k1, by simp [k2], Rps.cons r2 k3⟩
        · cases q1
end
/-- dict(e): of pairs, of a dict; o: whether it will be changed -/
def mkDic (o : Bool) (ks : List Key) (ds : List D) (M : St3) (P : KD) : Prop := if o = true then P (.obj M.length) (M ++ [.dic ks ds]) else P (.dic ks ds) M
def oToDic (o : Bool) : DSp := fun M ds P => (∃ a xs prs, ds = [a] ∧ seqD (vw M a) = some xs ∧ pairsOf xs = some prs ∧ mkDic o (mergeD [] [] prs).1 (mergeD [] [] prs).2 M P) ∨
  ∃ a ks es, ds = [a] ∧ vw M a = .dic ks es ∧ mkDic o ks es M P
section
variable {K : PySem.W.Frag} {F : Addr → Prop} {m : List Addr} {H : Hp} {M : St3} {P : KD} {o : Bool}
theorem fin_mk (g : Good K F m H M) {p : Addr} {kvs : List (Key × V)} {ks : List Key} {ds : List D} (hp : H p = none) (hk : kvs.map (·.1) = ks) (r : Rps K F m H ds (kvs.map (·.2))) (q : mkDic o ks ds M P) : Fin K F m H P (.ref p) (upd H p (.dK kvs)) := by
  unfold mkDic at q
  cases o with
  | true => exact fin_dicO g hp hk r q
  | false => exact fin_dic g hp hk r q
end
section
variable {X : Cx} {c : Ctx}
theorem op_dict {o : Bool} (hc : X.calm = true) : OpD X (ty1 "dict") (oToDic o) := opD1 (fun pins s σ H F m M u x a P I r1 g p1 w1 q => by
  rcases q with ⟨a', xs, prs, e, hs, hp, q⟩ | ⟨a', ks, es, e, hv, q⟩
  · obtain rfl := l1inj e
    revert w1 hs
    cases vw M a <;> intro w1 hs <;> simp only [seqD, Option.some.injEq, reduceCtorEq] at hs <;> subst hs
    · simp only [RpW, Rp] at w1
      obtain ⟨p, vs, rfl, h1, h2⟩ := w1
      obtain ⟨ps, kvs, rfl, k1, k2, k3⟩ := pairsOf_ok h2 hp
      obtain ⟨mk1, mk2⟩ := merge_rps (acc := []) (ads := []) k2 k3 Rps.nil
      cases r1
      obtain ⟨its, rv, pl, hz⟩ := I.tuple h1.sq
      have ei := refs_at rv
      subst ei
      rw [List.length_map] at hz
      obtain ⟨prs', rel, hl, hpr⟩ := pairs_of I k1
      have hob : ∃ ol n, s.heap.get? p = some ol ∧ ol.cls = .type "tuple" ∧ ol.dict = none ∧ ol.data = .seq (ps.map Value.ref).toArray n := by
        obtain ⟨o1, ho1, hc1, n1, hd1⟩ := pl
        rcases h1 with ⟨ob, h1, hd⟩ | ⟨ob, its', n, hk, _, hd, _⟩
        · have e1 := (show ObjOk X.prog X.w H s.heap p (.frz ob (.tup _)) from I.hok p _ h1).1
          rw [ho1] at e1; cases e1
          exact ⟨o1, n1, ho1, hc1, hd, hd1⟩
        · have e1 := I.kIn p ob hk
          rw [ho1] at e1; cases e1
          exact ⟨o1, n1, ho1, hc1, hd, hd1⟩
      obtain ⟨ol, n, ho, hcl, hd, hdat⟩ := hob
      refine call_dict_tup (prs := prs') (I.ok.hd hc) ho hcl hd hdat (by simp [hl]) (by rw [hl]; exact hz) (fun j q' e => ?_) fun h' tk hd' k => ?_
      · obtain ⟨b, u, e1, e2, e3⟩ := hpr j q' e
        exact ⟨b, u, by simp [e1], e2, e3⟩
      · have hm : (s.heap.objs.size == sysModules) = false := beq_eq_false_iff_ne.mpr (Nat.ne_of_gt I.big)
        have hlen : (mergeK [] kvs).length ≤ sizeLine := by
          refine Nat.le_trans (length_mergeK kvs []) ?_
          rw [List.length_nil, Nat.zero_add, rel.length, hl]; exact hz
        exact ⟨.ref s.heap.objs.size, _, I.laid (t' := tk) k (Nat.le_refl _) (show ObjOk X.prog X.w _ _ _ (.dK (mergeK [] kvs)) from ⟨hlen, hm, merged [] prs', KV.merge rel .nil, hd'⟩), rfl, fin_mk g (I.hok.fresh (Nat.le_refl _)) mk1 mk2 q⟩
    · obtain ⟨p, vs, rfl, h1, h2⟩ := w1
      obtain ⟨ps, kvs, rfl, k1, k2, k3⟩ := pairsOf_ok h2 hp
      obtain ⟨mk1, mk2⟩ := merge_rps (acc := []) (ads := []) k2 k3 Rps.nil
      exact call_dictP hc pins s σ H _ [u] _ I (.cons r1 .nil) ⟨p, ps, kvs, rfl, h1, k1, fun l hl => fin_mk g hl mk1 mk2 q⟩
  · obtain rfl := l1inj e
    rw [hv] at w1
    obtain ⟨p, kvs, rfl, h1, h2, h3⟩ := w1
    exact call_dictD pins s σ H _ [u] _ I (.cons r1 .nil) ⟨p, kvs, rfl, h1, fun l hl => fin_mk g hl h2 h3 q⟩)
  fun M ds P h => h.elim (fun ⟨a, _, _, e, _⟩ => ⟨a, e⟩) fun ⟨a, _, _, e, _⟩ => ⟨a, e⟩

/-! ### {..} -/
def dDic0 (o : Bool) : TD := fun _ M P => mkDic o [] [] M P
theorem pd_dic0 {o : Bool} {pos : Pos} : PD X c (.Dict [] [] pos) (dDic0 o) := PD.of pe_dnewK fun σ H F m M env P w r q => by
  first
    | exact fun p hp => fin_mk w.good hp rfl Rps.nil q
    | exact fun p hp => fin_mk (kvs := []) w.good hp rfl Rps.nil q
/-! ### {k: v, ..} -/
def dPairs : List (TD × TD) → Env3 → St3 → (List (D × D) → St3 → Prop) → Prop
  | [], _, M, P => P [] M
  | (tk, tv) :: r, env, M, P => tk env M fun k M1 => tv env M1 fun v M2 => dPairs r env M2 fun ps M3 => P ((k, v) :: ps) M3
def RpPs (K : PySem.W.Frag) (F : Addr → Prop) (m : List Addr) (H : Hp) (ds : List (D × D)) (vs : List (V × V)) : Prop := Rps K F m H (ds.map (·.1)) (vs.map (·.1)) ∧ Rps K F m H (ds.map (·.2)) (vs.map (·.2))
structure PDPs (X : Cx) (c : Ctx) (pos : Pos) (keys : List (Option Expr)) (values : List Expr) (trs : List (TD × TD)) : Prop where
  run : ∀ (pins : List (Addr × Obj)) (s : Shared) (σ : L2.St) (H : Hp) (F : Addr → Prop) (m : List Addr) (M : St3) (env : Env3) (P : List (D × D) → St3 → Prop), Inv X pins σ H s → World X.K c F m M H → Re X.K F m H env σ → dPairs trs env M P →
    wpAny (model X.prog X.w) X.A (evalPairs (pairTrees keys values X.env pos)) (fun vs s' => ∃ ps H', Inv X pins σ H' s' ∧ VV ps vs ∧ ∃ ds M' F' m', P ds M' ∧ Ext F m H F' m' H' ∧ Good X.K F' m' H' M' ∧ RpPs X.K F' m' H' ds ps) X.xe s
theorem pdps_nil {pos : Pos} : PDPs X c pos [] [] [] := ⟨fun pins s σ H F m M env P I w r h => pairTrees_nil_walk ⟨[], H, I, .nil, [], M, F, m, h, Ext.refl _ _ _, w.good, Rps.nil, Rps.nil⟩⟩
theorem pdps_cons {pos : Pos} {k v : Expr} {ks : List (Option Expr)} {vs : List Expr} {tk tv : TD} {trs : List (TD × TD)} (hk : PD X c k tk) (hv : PD X c v tv) (hr : PDPs X c pos ks vs trs) : PDPs X c pos (some k :: ks) (v :: vs) ((tk, tv) :: trs) := by
  refine ⟨fun pins s σ H F m M env P I w r h => ?_⟩
  refine pairTrees_cons_walk (thn (hk.run pins s σ H F m M env _ I w r h) fun u1 s1 ⟨x, H1, I1, rx, d1, M1, F1, m1, q1, e1, g1, p1⟩ => ?_)
  refine thn (hv.run pins s1 σ H1 F1 m1 M1 env _ I1 (w.step e1 g1) (r.ext w.good e1) q1) fun u2 s2 ⟨y, H2, I2, ry, d2, M2, F2, m2, q2, e2, g2, p2⟩ => ?_
  refine thn (hr.run pins s2 σ H2 F2 m2 M2 env _ I2 ((w.step e1 g1).step e2 g2) ((r.ext w.good e1).ext g1 e2) q2) fun us s3 ⟨ps, H3, I3, rel, ds, M3, F3, m3, q3, e3, g3, p3, p4⟩ => ?_
  exact ⟨(x, y) :: ps, H3, I3, .cons ⟨rx, ry⟩ rel, (d1, d2) :: ds, M3, F3, m3, q3, (e1.trans e2).trans e3, g3, Rps.cons (Rp.ext g2 e3 _ _ (Rp.ext g1 e2 _ _ p1)) p3, Rps.cons (Rp.ext g2 e3 _ _ p2) p4⟩
end
section
variable {K : PySem.W.Frag} {F F2 : Addr → Prop} {m m2 : List Addr} {H H2 : Hp} {M2 : St3} {p : Addr}
/-- an object that no one reads yet is written anew -/
theorem Good.ownAny (g : Good K F2 m2 H2 M2) {o : HO} (hF : ¬ F2 p) (hm : p ∉ m2) (h1 : ∀ xs, H2 p ≠ some (.tup xs)) (h2 : ∀ o u, H2 p ≠ some (.frz o u)) : Good K F2 m2 (upd H2 p o) M2 ∧ Stb F2 m2 H2 F2 m2 (upd H2 p o) := by
  have st : Stb F2 m2 H2 F2 m2 (upd H2 p o) := Stb.own hF h1 h2
  refine ⟨⟨g.len, g.nd, fun i a o' e1 e2 => ?_, fun a h => ?_⟩, st⟩
  · obtain ⟨h3, h4⟩ := g.at_ i a o' e1 e2
    have hne : a ≠ p := fun z => hm (by rw [← z]; exact List.mem_of_getElem? e1)
    refine ⟨h3, ?_⟩
    cases o' with
    | lst ds => obtain ⟨ys, e1, e2⟩ := h4; exact ⟨ys, by rw [upd_ne hne]; exact e1, Rps.stb st _ _ e2⟩
    | dic ks ds => obtain ⟨kvs, e1, hk, e2⟩ := h4; exact ⟨kvs, by rw [upd_ne hne]; exact e1, hk, Rps.stb st _ _ e2⟩
    | lck ks ds => obtain ⟨kvs, e1, hk, e2⟩ := h4; exact ⟨kvs, by unfold Rd; rw [upd_ne hne]; exact e1, hk, Rps.stb st _ _ e2⟩
  · have hne : a ≠ p := fun z => hF (z ▸ h)
    unfold Rd; rw [upd_ne hne]; exact g.fz a h
theorem Good.adoptF (g : Good K F2 m2 H2 M2) (hm : p ∉ m2) (h : (∃ xs, Rd H2 p (.lst xs)) ∨ ∃ kvs, Rd H2 p (.dK kvs)) : Good K (fun a => F2 a ∨ a = p) m2 H2 M2 ∧ Stb F2 m2 H2 (fun a => F2 a ∨ a = p) m2 H2 := by
  have st : Stb F2 m2 H2 (fun a => F2 a ∨ a = p) m2 H2 := ⟨fun _ _ h => h, fun _ _ _ h => h, fun _ h => ⟨.inl h, fun _ z => z, fun _ z => z⟩, [], by simp⟩
  refine ⟨⟨g.len, g.nd, fun i a o' e1 e2 => ?_, fun a z => z.elim (g.fz a) fun z => by rw [z]; exact h⟩, st⟩
  obtain ⟨h3, h4⟩ := g.at_ i a o' e1 e2
  have hne : a ≠ p := fun z => hm (by rw [← z]; exact List.mem_of_getElem? e1)
  refine ⟨fun z => z.elim h3 hne, ?_⟩
  cases o' with
  | lst ds => obtain ⟨ys, e1, e2⟩ := h4; exact ⟨ys, e1, Rps.stb st _ _ e2⟩
  | dic ks ds => obtain ⟨kvs, e1, hk, e2⟩ := h4; exact ⟨kvs, e1, hk, Rps.stb st _ _ e2⟩
  | lck ks ds => obtain ⟨kvs, e1, hk, e2⟩ := h4; exact ⟨kvs, e1, hk, Rps.stb st _ _ e2⟩
theorem Good.adoptM (g : Good K F2 m2 H2 M2) (hF : ¬ F2 p) (hm : p ∉ m2) {u : MO} (r : RpM K F2 (m2 ++ [p]) H2 u p) : Good K F2 (m2 ++ [p]) H2 (M2 ++ [u]) := by
  have st : Stb F2 m2 H2 F2 (m2 ++ [p]) H2 := ⟨fun _ _ h => h, fun _ _ _ h => h, fun _ h => ⟨h, fun _ z => z, fun _ z => z⟩, [p], rfl⟩
  refine ⟨by simp [g.len], ?_, fun j a o e1 e2 => ?_, g.fz⟩
  · rw [List.nodup_append]
    refine ⟨g.nd, by simp, fun a ha b hb => ?_⟩
    simp at hb; subst hb; intro z; subst z; exact hm ha
  · by_cases hj : j < m2.length
    · rw [List.getElem?_append_left hj] at e1
      rw [List.getElem?_append_left (by rw [← g.len]; exact hj)] at e2
      obtain ⟨h3, h4⟩ := g.at_ j a o e1 e2
      refine ⟨h3, ?_⟩
      cases o with
      | lst ds => obtain ⟨ys, a1, a2⟩ := h4; exact ⟨ys, a1, Rps.stb st _ _ a2⟩
      | dic ks ds => obtain ⟨kvs, a1, ak, a2⟩ := h4; exact ⟨kvs, a1, ak, Rps.stb st _ _ a2⟩
      | lck ks ds => obtain ⟨kvs, a1, ak, a2⟩ := h4; exact ⟨kvs, a1, ak, Rps.stb st _ _ a2⟩
    · have hj' : j = m2.length := by
        have := (List.getElem?_eq_some_iff.mp e1).1
        simp at this; omega
      subst hj'
      rw [List.getElem?_append_right (Nat.le_refl _)] at e1
      rw [List.getElem?_append_right (by rw [g.len]; exact Nat.le_refl _)] at e2
      simp at e1
      rw [g.len] at e2; simp at e2
      subst e1 e2
      exact ⟨hF, r⟩
/-- from a heap with an object of one's own laid, to the end -/
theorem Ext.ownEnd {o0 o1 : HO} (hp : H p = none) (e : Ext F m (upd H p o0) F2 m2 H2) : Ext F m H F2 m2 (upd H2 p o1) := by
  have back : ∀ a, (upd H p o0) a = none → H a = none := fun a z => by
    by_cases q : a = p
    · subst q; exact hp
    · rw [upd_ne q] at z; exact z
  obtain ⟨n, e1, q⟩ := e.m_
  refine ⟨e.f, fun a h => (e.fn a h).imp id (back a), ⟨n, e1, fun a h => back a (q a h)⟩, fun b o hb hm => ?_, fun b hb => ?_, fun b o u hb => ?_⟩
  · have hne := ne_of_none hb hp
    rw [upd_ne hne]
    exact e.k b o (by rw [upd_ne hne]; exact hb) hm
  · by_cases z : b = p
    · subst z; rw [upd_same]; simp
    · rw [upd_ne z]; exact e.t b (by rw [upd_ne z]; exact hb)
  · have hne := ne_of_none hb hp
    rw [upd_ne hne]
    exact e.z b o u (by rw [upd_ne hne]; exact hb)
theorem Ext.adoptF (e : Ext F m H F2 m2 H2) (hp : H p = none) : Ext F m H (fun a => F2 a ∨ a = p) m2 H2 := ⟨fun a h => .inl (e.f a h), fun a h => h.elim (e.fn a) fun z => by rw [z]; exact .inr hp, e.m_, e.k, e.t, e.z⟩
theorem Ext.adoptM (e : Ext F m H F2 m2 H2) (hp : H p = none) : Ext F m H F2 (m2 ++ [p]) H2 := by
  obtain ⟨n, e1, q⟩ := e.m_
  refine ⟨e.f, e.fn, ⟨n ++ [p], by rw [e1, List.append_assoc], fun a h => ?_⟩, e.k, e.t, e.z⟩
  rcases List.mem_append.mp h with h | h
  · exact q a h
  · simp at h; rw [h]; exact hp
theorem own_dic {P : KD} {o : Bool} {ks : List Key} {ds : List D} {kv0 kvs : List (Key × V)} (hp : H p = none) (e : Ext F m (upd H p (.dK [])) F2 m2 H2) (g : Good K F2 m2 H2 M2) (hF : ¬ F2 p) (hm : p ∉ m2) (h2 : H2 p = some (.dK kv0)) (hk : kvs.map (·.1) = ks)
    (r : Rps K F2 m2 H2 ds (kvs.map (·.2))) (q : mkDic o ks ds M2 P) : Fin K F m H P (.ref p) (upd H2 p (.dK kvs)) := by
  have e3 : Ext F m H F2 m2 (upd H2 p (.dK kvs)) := e.ownEnd hp
  obtain ⟨g3, s3⟩ := g.ownAny (o := .dK kvs) hF hm (fun _ z => by rw [h2] at z; cases z) (fun _ _ z => by rw [h2] at z; cases z)
  have r3 := Rps.stb s3 _ _ r
  unfold mkDic at q
  cases o with
  | false =>
    rw [if_neg Bool.false_ne_true] at q
    obtain ⟨g4, s4⟩ := g3.adoptF hm (.inr ⟨kvs, .inl upd_same⟩)
    refine ⟨.dic ks ds, M2, _, m2, q, e3.adoptF hp, g4, ?_⟩
    simp only [Rp]
    exact ⟨p, kvs, rfl, ⟨.inr rfl, .inl upd_same⟩, hk, Rps.stb s4 _ _ r3⟩
  | true =>
    rw [if_pos rfl] at q
    have st : Stb F2 m2 (upd H2 p (.dK kvs)) F2 (m2 ++ [p]) (upd H2 p (.dK kvs)) := ⟨fun _ _ h => h, fun _ _ _ h => h, fun _ h => ⟨h, fun _ z => z, fun _ z => z⟩, [p], rfl⟩
    refine ⟨.obj M2.length, _, F2, m2 ++ [p], q, e3.adoptM hp, g3.adoptM hF hm ⟨kvs, upd_same, hk, Rps.stb st _ _ r3⟩, ?_⟩
    simp only [Rp]
    exact ⟨p, by rw [← g.len]; simp, rfl⟩
end
def keyed : List (D × D) → Option (List (Key × D))
  | [] => some []
  | p :: r => match keyD p.1, keyed r with
    | some k, some t => some ((k, p.2) :: t)
    | _, _ => none
theorem keyed_ok {K : PySem.W.Frag} {F : Addr → Prop} {m : List Addr} {H : Hp} : ∀ {ds : List (D × D)} {vs : List (V × V)} {prs : List (Key × D)}, RpPs K F m H ds vs → keyed ds = some prs →
    ∃ kvs : List (Key × V), vs = kvs.map (fun kv => (kV kv.1, kv.2)) ∧ kvs.map (·.1) = prs.map (·.1) ∧ Rps K F m H (prs.map (·.2)) (kvs.map (·.2))
  | [], [], prs, h, e => by simp only [keyed, Option.some.injEq] at e; subst e; exact ⟨[], rfl, rfl, Rps.nil⟩
  | [], v :: vs, prs, h, e => by have := h.1.length; simp at this
  | d :: ds, [], prs, h, e => by have := h.1.length; simp at this
  | d :: ds, v :: vs, prs, h, e => by
    obtain ⟨h1, h2⟩ := h
    obtain ⟨x, r, ex, a1, a2⟩ := Rps.cons_inv h1
    obtain ⟨y, r', ey, b1, b2⟩ := Rps.cons_inv h2
    simp only [List.map_cons, List.cons.injEq] at ex ey
    obtain ⟨rfl, rfl⟩ := ex
    obtain ⟨rfl, rfl⟩ := ey
    simp only [keyed] at e
    cases q1 : keyD d.1 with
    | none => rw [q1] at e; cases e
    | some k =>
      cases q2 : keyed ds with
      | none => rw [q1, q2] at e; cases e
      | some t =>
        rw [q1, q2] at e; cases e
        obtain ⟨kvs, rfl, k2, k3⟩ := keyed_ok ⟨a2, b2⟩ q2
        have ev := rp_key a1 q1
        refine ⟨(k, v.2) :: kvs, ?_, by simp [k2], Rps.cons b1 k3⟩
        simp only [List.map_cons]
        rw [← ev]
def dDisp (o : Bool) (trs : List (TD × TD)) : TD := fun env M P => dPairs trs env M fun ps M1 => ∃ prs, keyed ps = some prs ∧ prs.length ≤ 15 ∧ mkDic o (mergeD [] [] prs).1 (mergeD [] [] prs).2 M1 P
section
variable {X : Cx} {c : Ctx}
theorem pd_disp {o : Bool} {pos : Pos} {keys : List (Option Expr)} {values : List Expr} {trs : List (TD × TD)} (h : PDPs X c pos keys values trs) (hall : keys.all (·.isSome) = true) (hl : keys.length = values.length) (h0 : keys ≠ []) (h15 : keys.length ≤ 15) : PD X c (.Dict keys values pos) (dDisp o trs) := by
  refine ⟨fun pins s σ H F m M env P I w r q => ?_⟩
  have hn := I.hok.fresh (Nat.le_refl s.heap.objs.size)
  have I1 := I.laid (a := s.heap.objs.size) (o := .dK []) (h' := s.heap.push { cls := .type "dict", data := .dict #[] }) (t' := s.toks) (fun _ _ q => Heap.get?_push_of_some _ q) (Nat.le_refl _) (dk_empty s.heap I.big)
  have w1 : World X.K c F m M (upd H s.heap.objs.size (.dK [])) := w.step (Ext.laid hn) (w.good.laid hn)
  refine wpAny_Dict_walk (knd := mixKind X.prog X.w) hall hl h0 h15 (thn (h.run pins _ σ _ F m M env _ I1 w1 (r.ext w.good (Ext.laid hn)) q) fun ws s2 ⟨ps, H2, I2, rel, ds, M2, F2, m2, ⟨prs, hk, hz, q2⟩, e2, g2, rp⟩ => ?_)
  obtain ⟨kvs, rfl, k1, k2⟩ := keyed_ok rp hk
  obtain ⟨rs, cr, rk⟩ := carries_of (P := X.prog) (w := X.w) rel
  have hF0 : ¬ F s.heap.objs.size := fun z => nin_none hn (w.good.fz _ z)
  have hm0 : s.heap.objs.size ∉ m := fun z => nin_none hn (w.good.notIn z).2
  have hF2 : ¬ F2 s.heap.objs.size := fun z => by
    rcases e2.fn _ z with z | z
    · exact hF0 z
    · rw [upd_same] at z; cases z
  have hm2 : s.heap.objs.size ∉ m2 := fun z => by
    obtain ⟨n, en, hq⟩ := e2.m_
    rw [en] at z
    rcases List.mem_append.mp z with z | z
    · exact hm0 z
    · have := hq _ z; rw [upd_same] at this; cases this
  have e : H2 s.heap.objs.size = some (.dK []) := by
    rcases e2.k _ _ upd_same hm0 with z | ⟨_, _, _, z, _⟩
    · exact z
    · exact absurd z hF0
  obtain ⟨z, hd, vs0, r0, dd⟩ := dk_of I2.hok e
  cases r0
  obtain ⟨mk1, mk2⟩ := merge_rps (acc := []) (ads := []) k1 k2 Rps.nil
  refine ⟨rs, cr, dd, fun h' dd' hs => ⟨.ref s.heap.objs.size, _, ?_, rfl, own_dic hn e2 g2 hF2 hm2 e mk1 mk2 q2⟩⟩
  have hz2 : (mergeK [] kvs).length ≤ sizeLine := by
    have h1 := length_mergeK kvs []
    have h3 : kvs.length = prs.length := by have := congrArg List.length k1; simpa using this
    rw [List.length_nil] at h1
    rw [sizeLine_eq]; omega
  have he : ∃ q, h'.get? s.heap.objs.size = some q := let ⟨q, _, _, hq, _⟩ := dd'; ⟨q, hq⟩
  exact d_write I2 (by rw [e]; exact True.intro) hs he (dk_new hz2 hd (rk.merge .nil) dd')
end
end L3
namespace L3
open PySem PySem.Spec PyProof.Rows L2
section
variable {X : Cx} {c : Ctx}
/-! ### a < b < c -/
def dChain (d1 d2 : DSp) (ta tb tc : TD) : TD := fun env M P => ta env M fun x M1 => tb env M1 fun y M2 => d1 M2 [x, y] fun z M3 => ∃ k, z = .bl k ∧ if k = true then tc env M3 fun w M4 => d2 M4 [y, w] P else P (.bl false) M3
section
variable {a b e : Expr} {ta tb te : TD} {op op' : CmpOp} {d1 d2 : DSp} {pos : Pos}
theorem pd_chain (ho : OpD X (cmp op) d1) (ho' : OpD X (cmp op') d2) (ha : PD X c a ta) (hb : PD X c b tb) (he : PD X c e te) (hm : lastMarks [op, op'] [b, e] = false) : PD X c (.Compare a [op, op'] [b, e] pos) (dChain d1 d2 ta tb te) := by
  refine ⟨fun pins s σ H F m M env P I w r h => ?_⟩
  refine Compare_chain (thn (ha.run pins s σ H F m M env _ I w r h) fun v s1 ⟨x, H1, I1, r1, dx, M1, F1, m1, q1, e1, g1, p1⟩ => chain_link (thn (hb.run pins s1 σ H1 F1 m1 M1 env _ I1 (w.step e1 g1) (r.ext w.good e1) q1) fun u s2 ⟨y, H2, I2, r2, dy, M2, F2, m2, q2, e2, g2, p2⟩ => ?_)) hm
  refine thn (ho pins s2 σ H2 F2 m2 M2 [v, u] [x, y] [dx, dy] _ I2 (.cons r1 (.cons r2 .nil)) g2 (Rps.cons (Rp.ext g1 e2 _ _ p1) (Rps.one p2)) q2) fun d s3 ⟨z, H3, I3, r3, dz, M3, F3, m3, ⟨k, ez, q3⟩, e3, g3, p3⟩ => ?_
  subst ez
  simp only [Rp] at p3; subst p3
  cases r3
  have e13 := (e1.trans e2).trans e3
  refine wpAny_truthy_bool ?_
  cases k with
  | false => exact ite_ff ⟨.bl false, H3, I3, rfl, .bl false, M3, F3, m3, q3, e13, g3, by simp [Rp]⟩
  | true =>
    refine ite_tt (chain_last (thn (he.run pins s3 σ H3 F3 m3 M3 env _ I3 (((w.step e1 g1).step e2 g2).step e3 g3) (((r.ext w.good e1).ext g1 e2).ext g2 e3) q3) fun u3 s4 ⟨t, H4, I4, r4, dt, M4, F4, m4, q4, e4, g4, p4⟩ => ?_))
    exact thn (ho' pins s4 σ H4 F4 m4 M4 [u, u3] [y, t] [dy, dt] P I4 (.cons r2 (.cons r4 .nil)) g4 (Rps.cons (Rp.ext g3 e4 _ _ (Rp.ext g2 e3 _ _ p2)) (Rps.one p4)) q4) fun _ _ z => ep_step z (fin_step (pins := pins) (σ := σ) (e13.trans e4))
theorem pdt_chain (ho : OpD X (cmp op) d1) (ho' : OpD X (cmp op') d2) (ha : PD X c a ta) (hb : PD X c b tb) (he : PD X c e te) (hm : lastMarks [op, op'] [b, e] = false) : PDT X c (.Compare a [op, op'] [b, e] pos) (dTru (dChain d1 d2 ta tb te)) := by
  refine ⟨fun pins s σ H F m M env P I w r h => ?_⟩
  refine isTrue_chain (thn (ha.run pins s σ H F m M env _ I w r h) fun v s1 ⟨x, H1, I1, r1, dx, M1, F1, m1, q1, e1, g1, p1⟩ => test_link (thn (hb.run pins s1 σ H1 F1 m1 M1 env _ I1 (w.step e1 g1) (r.ext w.good e1) q1) fun u s2 ⟨y, H2, I2, r2, dy, M2, F2, m2, q2, e2, g2, p2⟩ => ?_)) hm
  refine thn (ho pins s2 σ H2 F2 m2 M2 [v, u] [x, y] [dx, dy] _ I2 (.cons r1 (.cons r2 .nil)) g2 (Rps.cons (Rp.ext g1 e2 _ _ p1) (Rps.one p2)) q2) fun d s3 ⟨z, H3, I3, r3, dz, M3, F3, m3, ⟨k, ez, q3⟩, e3, g3, p3⟩ => ?_
  subst ez
  simp only [Rp] at p3; subst p3
  cases r3
  have e13 := (e1.trans e2).trans e3
  refine wpAny_truthy_bool ?_
  cases k with
  | false =>
    obtain ⟨k', e', q'⟩ := q3
    cases e'
    exact ite_ff ⟨H3, I3, M3, F3, m3, q', e13, g3⟩
  | true =>
    refine ite_tt (test_last (thn (he.run pins s3 σ H3 F3 m3 M3 env _ I3 (((w.step e1 g1).step e2 g2).step e3 g3) (((r.ext w.good e1).ext g1 e2).ext g2 e3) q3) fun u3 s4 ⟨t, H4, I4, r4, dt, M4, F4, m4, q4, e4, g4, p4⟩ => ?_))
    refine thn (ho' pins s4 σ H4 F4 m4 M4 [u, u3] [y, t] [dy, dt] _ I4 (.cons r2 (.cons r4 .nil)) g4 (Rps.cons (Rp.ext g3 e4 _ _ (Rp.ext g2 e3 _ _ p2)) (Rps.one p4)) q4) fun z' s5 ⟨x5, H5, I5, r5, d5, M5, F5, m5, ⟨k5, hk5, q5⟩, e5, g5, p5⟩ => ?_
    exact thn (tru_ok pins s5 σ H5 x5 z' (fun b H' => b = k5 ∧ H' = H5) I5 r5 ⟨k5, truV_of (g5.look p5) hk5, rfl, rfl⟩) fun b s6 ⟨H6, I6, eb, eh⟩ => by
      subst eb eh
      exact ⟨H6, I6, M5, F5, m5, q5, (e13.trans e4).trans e5, g5⟩
end

/-! ### o[i] = v -/
/-- where a store leads -/
def oPut (M : St3) (a b d : D) (P : St3 → Prop) : Prop := ∃ n, a = .obj n ∧ match M[n]? with
  | some (.lst xs) => ∃ k j, b = .int k ∧ ixN xs.length k = some j ∧ P (M.set n (.lst (xs.set j d)))
  | some (.dic ks ds) => ∃ k, keyD b = some k ∧ ks.length < sizeLine ∧ P (M.set n (.dic (putKs ks k) (putDs ks ds k d)))
  | _ => False
theorem put_ok (hu : X.A.units + 1 < cLine) {pins : List (Addr × Obj)} {s : Shared} {σ : L2.St} {H : Hp} {F : Addr → Prop} {m : List Addr} {M : St3} {x y z : V} {u v t : Value} {a b d : D} {P : St3 → Prop} (I : Inv X pins σ H s) (r1 : RelV x u) (r2 : RelV y v) (r3 : RelV z t)
    (g : Good X.K F m H M) (p1 : Rp X.K F m H a x) (p2 : Rp X.K F m H b y) (p3 : Rp X.K F m H d z) (q : oPut M a b d P) :
    wpAny (model X.prog X.w) X.A (setItem u v t) (fun _ s' => ∃ H', Inv X pins σ H' s' ∧ ∃ M', P M' ∧ Ext F m H F m H' ∧ Good X.K F m H' M') X.xe s := by
  obtain ⟨n, rfl, q⟩ := q
  split at q
  · rename_i xs hM
    obtain ⟨k, j, rfl, hj, q⟩ := q
    obtain ⟨p, ys, rfl, hm, hH, hr⟩ := g.objL p1 hM
    simp only [Rp] at p2; subst p2
    have hx : Ext F m H F m (upd H p (.lst (ys.set j z))) := Ext.write g (List.mem_of_getElem? hm) (fun _ _ e => by rw [hH] at e; cases e)
    refine thn (set_list pins s σ H _ _ z u v t (fun H' => H' = upd H p (.lst (ys.set j z))) I r1 r2 r3 ⟨p, ys, k, j, rfl, rfl, hH, by rw [← hr.length]; exact hj, rfl⟩) fun _ s' ⟨H', I', e⟩ => ?_
    subst e
    exact ⟨_, I', _, q, hx, g.write hm (fun _ _ e => by rw [hH] at e; cases e) ⟨_, upd_same, Rps.ext g hx _ _ (Rps.set p3 j hr)⟩⟩
  · rename_i ks ds hM
    obtain ⟨k, hk, hz, q⟩ := q
    obtain ⟨p, kvs, rfl, hm, hH, hks, hr⟩ := g.objD p1 hM
    obtain rfl := rp_key p2 hk
    cases r1
    have hl : kvs.length < sizeLine := by rw [← hks, List.length_map] at hz; exact hz
    have hx : Ext F m H F m (upd H p (.dK (putK kvs k z))) := Ext.write g (List.mem_of_getElem? hm) (fun _ _ e => by rw [hH] at e; cases e)
    refine d_setItem hu I (DPut.k hH hl) r2 r3 fun s' I' => ⟨_, I', _, q, hx, g.write hm (fun _ _ e => by rw [hH] at e; cases e) ⟨_, upd_same, by rw [put_fst, hks], ?_⟩⟩
    rw [← hks]
    exact Rps.ext g hx _ _ (put_rps hr p3)
  · exact q.elim
def sPut (to ti tv : TD) : TDS := fun D env M => tv env M fun d M1 => to env M1 fun a M2 => ti env M2 fun b M3 => oPut M3 a b d fun M4 => D.nx env M4
theorem pds_put {o i value : Expr} {to ti tv : TD} {pos pos' : Pos} (hu : X.A.units + 1 < cLine) (ho : PD X c o to) (hi : PD X c i ti) (hv : PD X c value tv) (hs : swapsWith value (some (.Subscript o i pos')) pos.line X.env = pure false) : PDS X c (.Assign [.Subscript o i pos'] value pos) (sPut to ti tv) := by
  refine ⟨fun pins s σ H F m M env D I w r h => ?_⟩
  refine wpAny_Assign_Subscript (thn (hv.run pins s σ H F m M env _ I w r h) fun t s1 ⟨z, H1, I1, rz, d, M1, F1, m1, q1, e1, g1, p1⟩ => thn (ho.run pins s1 σ H1 F1 m1 M1 env _ I1 (w.step e1 g1) (r.ext w.good e1) q1) fun u s2 ⟨x, H2, I2, rx, a, M2, F2, m2, q2, e2, g2, p2⟩ =>
    thn (hi.run pins s2 σ H2 F2 m2 M2 env _ I2 ((w.step e1 g1).step e2 g2) ((r.ext w.good e1).ext g1 e2) q2) fun v s3 ⟨y, H3, I3, ry, b, M3, F3, m3, q3, e3, g3, p3⟩ => ?_) hs
  have w3 := ((w.step e1 g1).step e2 g2).step e3 g3
  have r3 := ((r.ext w.good e1).ext g1 e2).ext g2 e3
  exact thn (put_ok hu I3 rx ry rz g3 (Rp.ext g2 e3 _ _ p2) p3 (Rp.ext g2 e3 _ _ (Rp.ext g1 e2 _ _ p1)) q3) fun _ s4 ⟨H4, I4, M4, q4, e4, g4⟩ => ⟨σ, H4, I4, F3, m3, M4, env, w3.step e4 g4, r3.ext g3 e4, q4⟩

/-! ### a, b = x, y -/
def sPar (i j : Nat) (t : TDA) : TDS := fun D env M => t env M fun ds M1 => ∃ a b, ds = [a, b] ∧ D.nx ((env.set i (some a)).set j (some b)) M1
def sPar3 (i j l : Nat) (t : TDA) : TDS := fun D env M => t env M fun ds M1 => ∃ a b k, ds = [a, b, k] ∧ D.nx (((env.set i (some a)).set j (some b)).set l (some k)) M1
section
variable {i j l : Nat} {x y z : Str} {a b e : Expr} {t : TDA} {px py pz pt pos : Pos} {kt k2 : _} {pt2 : Pos}
theorem pds_par (hc : X.calm = true) (hN : X.N.Nodup) (hi : X.N[i]? = some x) (hj : X.N[j]? = some y) (hij : i ≠ j) (hx : X.env.scope.names.lookup x = some .local) (hy : X.env.scope.names.lookup y = some .local) (ha : PDA X c [a, b] t)
    (hw : swappedStores [.Tuple [.Name x px, .Name y py] kt pt] (.Tuple [a, b] k2 pt2) X.env = pure (some [x, y])) (hs : swapsWithSole [.Tuple [.Name x px, .Name y py] kt pt] (.Tuple [a, b] k2 pt2) pos.line X.env = pure false) :
    PDS X c (.Assign [.Tuple [.Name x px, .Name y py] kt pt] (.Tuple [a, b] k2 pt2) pos) (sPar i j t) :=
  PDS.of (ps_par hc hN hi hj hij hx hy ha.pa hw hs) fun σ H F m M env D w r q => ⟨F, m, M, env, _, w, r, q, fun vs H' ds M' F' m' ⟨d1, d2, ed, q1⟩ ex g rp => by
    subst ed
    obtain ⟨v, u, rfl, p1, p2⟩ := rps2 rp
    exact ⟨v, u, rfl, F', m', M', _, w.step ex g, ((r.ext w.good ex).set p1).set p2, q1⟩⟩
theorem pds_par3 (hc : X.calm = true) (hN : X.N.Nodup) (hi : X.N[i]? = some x) (hj : X.N[j]? = some y) (hl : X.N[l]? = some z) (hij : i ≠ j) (hil : i ≠ l) (hjl : j ≠ l) (hx : X.env.scope.names.lookup x = some .local) (hy : X.env.scope.names.lookup y = some .local) (hz : X.env.scope.names.lookup z = some .local) (ha : PDA X c [a, b, e] t)
    (hw : swappedStores [.Tuple [.Name x px, .Name y py, .Name z pz] kt pt] (.Tuple [a, b, e] k2 pt2) X.env = pure (some [x, y, z])) (hs : swapsWithSole [.Tuple [.Name x px, .Name y py, .Name z pz] kt pt] (.Tuple [a, b, e] k2 pt2) pos.line X.env = pure false) :
    PDS X c (.Assign [.Tuple [.Name x px, .Name y py, .Name z pz] kt pt] (.Tuple [a, b, e] k2 pt2) pos) (sPar3 i j l t) :=
  PDS.of (ps_par3 hc hN hi hj hl hij hil hjl hx hy hz ha.pa hw hs) fun σ H F m M env D w r q => ⟨F, m, M, env, _, w, r, q, fun vs H' ds M' F' m' ⟨d1, d2, d3, ed, q1⟩ ex g rp => by
    subst ed
    obtain ⟨v, u, t, rfl, p1, p2, p3⟩ := rps3 rp
    exact ⟨v, u, t, rfl, F', m', M', _, w.step ex g, (((r.ext w.good ex).set p1).set p2).set p3, q1⟩⟩
end
end
end L3
namespace L3
open PySem PySem.Spec PyProof.Rows L2
/-! ### sorted -/
def sortD (xs : List D) : List D := xs.mergeSort (PySem.W.dataLe false D.toP)
def sortC (xs : List D) : Prop := D.pus xs = true ∧ PySem.W.AllAlike (xs.map D.toP) ∧ PySem.W.Sortable (xs.map D.toP) ∧ ∀ d, d ∈ xs → dDep d ≤ 64
abbrev RV (K : PySem.W.Frag) (F : Addr → Prop) (m : List Addr) (H : Hp) (v : Value) (d : D) : Prop := ∃ y, RelV y v ∧ Rp K F m H d y
section
variable {K : PySem.W.Frag} {F : Addr → Prop} {m : List Addr} {H : Hp}
theorem each_of : ∀ {xs : List D} {ys : List V} {vs : List Value}, Rps K F m H xs ys → Vals ys vs → PySem.W.EachIs (RV K F m H) vs xs
  | [], _, _, h, r => by obtain rfl := Rps.nil_inv h; cases r; exact .nil
  | d :: ds, _, _, h, r => by
    obtain ⟨x, t, rfl, h1, h2⟩ := Rps.cons_inv h
    cases r with
    | cons r1 r2 => exact .cons ⟨x, r1, h1⟩ (each_of h2 r2)
theorem each_back {vs : List Value} {xs : List D} (e : PySem.W.EachIs (RV K F m H) vs xs) : ∃ ys, Vals ys vs ∧ Rps K F m H xs ys := by
  induction e with
  | nil => exact ⟨[], .nil, Rps.nil⟩
  | cons h _ ih =>
    obtain ⟨y, r, p⟩ := h
    obtain ⟨ys, rs, ps⟩ := ih
    exact ⟨y :: ys, .cons r rs, Rps.cons p ps⟩
theorem each_len {α β : Type} {R : α → β → Prop} {as : List α} {bs : List β} (e : PySem.W.EachIs R as bs) : as.length = bs.length := by
  induction e with
  | nil => rfl
  | cons _ _ ih => simp [ih]
theorem each_mono {α β : Type} {R S : α → β → Prop} {as : List α} {bs : List β} (e : PySem.W.EachIs R as bs) (h : ∀ a b, b ∈ bs → R a b → S a b) : PySem.W.EachIs S as bs := by
  induction e with
  | nil => exact .nil
  | cons r _ ih => exact .cons (h _ _ (by simp) r) (ih fun a b hb => h a b (by simp [hb]))
theorem pus_mem {xs : List D} (h : D.pus xs = true) {d : D} (hd : d ∈ xs) : d.pu = true := by
  rw [pus_all] at h
  exact List.all_eq_true.mp h d hd
end
/-- a list made; o: whether it will be changed -/
def mkLst (o : Bool) (ds : List D) (M : St3) (P : KD) : Prop := if o = true then P (.obj M.length) (M ++ [.lst ds]) else P (.lst ds) M
section
variable {K : PySem.W.Frag} {F : Addr → Prop} {m : List Addr} {H : Hp} {M : St3} {P : KD} {o : Bool}
theorem fin_mkL (g : Good K F m H M) {p : Addr} {xs : List V} {ds : List D} (hp : H p = none) (r : Rps K F m H ds xs) (q : mkLst o ds M P) : Fin K F m H P (.ref p) (upd H p (.lst xs)) := by
  unfold mkLst at q
  cases o with
  | true => exact fin_lstO g hp r q
  | false => exact fin_lst g hp r q
end
/-- sorted(e) -/
def itemsSort (M : St3) : D → Option (List D)
  | .lst ds => some ds | .dic ks _ => some (ks.map kD) | _ => none
def oSorted (o : Bool) : DSp := fun M ds P => ∃ a xs, ds = [a] ∧ ((vw M a = .lst xs) ∨ ∃ ks es, vw M a = .dic ks es ∧ xs = ks.map kD ∧ keysOk ks) ∧ sortC xs ∧ mkLst o (sortD xs) M P
section
variable {X : Cx} {c : Ctx}
theorem each_reads {pins : List (Addr × Obj)} {σ : L2.St} {s : Shared} {F : Addr → Prop} {m : List Addr} {H : Hp} (I : Inv X pins σ H s) {vs : List Value} {xs : List D} (hp : D.pus xs = true) (e : PySem.W.EachIs (RV X.K F m H) vs xs) : PySem.W.EachIs (fun v d => ∃ as, Reads s.heap v (D.toP d) as) vs xs :=
  each_mono e fun v d hd ⟨y, r, p⟩ => Dp.reads I _ _ _ (Rp.dp _ _ p (pus_mem hp hd)) r
theorem sort_len {xs : List D} : (sortD xs).length = xs.length := List.length_mergeSort _
/-- list.sort() of a new list, as sorted calls it -/
theorem sort_tail {o : Bool} {pins : List (Addr × Obj)} {s : Shared} {σ : L2.St} {H : Hp} {F : Addr → Prop} {m : List Addr} {M : St3} {P : KD} {A : Around} {E : Value → Shared → Prop} {l : List Value} {xs : List D} (I : Inv X pins σ H s) (g : Good X.K F m H M) (ee : PySem.W.EachIs (RV X.K F m H) l xs) (hc : sortC xs)
    (hz : l.length ≤ sizeLine) (hA : A.units + 70 < cLine) (q : mkLst o (sortD xs) M P) :
    wpAny (model X.prog X.w) A (Builtin.«list.sort» ⟨[.ref s.heap.objs.size], []⟩) (fun f s' => f = .done (.ret .none) ∧ EP X pins σ (Fin X.K F m H P) (.ref s.heap.objs.size) s') E { s with heap := s.heap.push (seqObj "list" l.toArray 0) } := by
  obtain ⟨c1, c2, c3, c4⟩ := hc
  have hoL : (s.heap.push (seqObj "list" l.toArray 0)).get? s.heap.objs.size = some (seqObj "list" l.toArray 0) := Heap.get?_push_size _ rfl
  have old : ∀ b ob, s.heap.get? b = some ob → (PySem.W.sortingHeap (s.heap.push (seqObj "list" l.toArray 0)) s.heap.objs.size l).get? b = some ob := fun b ob e => PySem.W.sortingHeap_old (Nat.ne_of_lt (Heap.lt_size e)) (Heap.get?_push_of_some _ e)
  have er : PySem.W.EachIs (fun v d => ∃ as, Reads (PySem.W.sortingHeap (s.heap.push (seqObj "list" l.toArray 0)) s.heap.objs.size l) v (D.toP d) as) l xs := each_mono (each_reads I c1 ee) fun v d _ ⟨as, r⟩ => ⟨as, PyProof.Rows.Reads.keeps old r⟩
  refine PySem.W.list_sort_vals (s := { s with heap := s.heap.push (seqObj "list" l.toArray 0) }) hoL (PySem.W.SortsAt.data (s := { s with heap := PySem.W.sortingHeap (s.heap.push (seqObj "list" l.toArray 0)) s.heap.objs.size l })
    (PySem.W.each_map (R := fun v d => ∃ as, Reads (PySem.W.sortingHeap (s.heap.push (seqObj "list" l.toArray 0)) s.heap.objs.size l) v d as) D.toP er) c2 c3 (PySem.W.bound_map fun b hb => by have := c4 b hb; unfold dDep at this; omega)) hz ⟨rfl, ?_⟩
  have eo := PySem.W.sortVals_data (h' := PySem.W.sortingHeap (s.heap.push (seqObj "list" l.toArray 0)) s.heap.objs.size l) false ee er c2
  obtain ⟨zs, rz, pz⟩ := each_back eo
  obtain ⟨cc, hcc⟩ := PyProof.Rows.sortedHeap_at (vs := l) (out := (PySem.W.sortVals (PySem.W.dataKind (PySem.W.sortingHeap (s.heap.push (seqObj "list" l.toArray 0)) s.heap.objs.size l) (xs.map D.toP)) false l l).toArray) hoL
  have hlz : zs.length ≤ sizeLine := by rw [← pz.length]; show (sortD xs).length ≤ _; rw [sort_len, ← each_len ee]; exact hz
  refine ⟨.ref _, upd H s.heap.objs.size (.lst zs), I.laid (t' := s.toks) (fun b u e => ?_) (Nat.le_refl _) ⟨hlz, _, cc, rz, hcc⟩, rfl, fin_mkL g (I.hok.fresh (Nat.le_refl _)) pz q⟩
  have hlt := Heap.lt_size e
  rw [PyProof.Rows.sortedHeap_old (Nat.ne_of_lt hlt) (by rw [size_push']; exact Nat.lt_succ_of_lt hlt)]
  exact Heap.get?_push_of_some _ e
theorem op_sorted {o : Bool} (hc : X.calm = true) (hu : X.A.units + 80 < cLine) : OpD X (fn1 "sorted") (oSorted o) := opD1 (fun pins s σ H F m M u x a P I r1 g p1 w1 q => by
  obtain ⟨a', xs, e, hs, ⟨c1, c2, c3, c4⟩, q⟩ := q
  obtain rfl := l1inj e
  rcases hs with hs | ⟨ks, es, hs, rfl, hko⟩
  · rw [hs] at w1
    obtain ⟨p, ys, rfl, h1, h2⟩ := w1
    cases r1
    obtain ⟨its, rv, pl, hz⟩ := I.list h1
    have ee := each_of h2 rv
    have el := each_len ee
    refine PySem.W.sorted_data (R := RV X.K F m H) (enc := D.toP) pl.isList ee (each_reads I c1 ee) c2 c3 (by rw [h2.length]; exact hz) (fun b hb => by have := c4 b hb; unfold dDep at this; omega) fun out hl eo => ?_
    obtain ⟨zs, rz, pz⟩ := each_back eo
    obtain ⟨cc, hcc⟩ := sortedAll_at s.heap its out.toArray
    have hlz : zs.length ≤ sizeLine := by rw [rz.length, hl, h2.length]; exact hz
    exact ⟨.ref _, _, I.laid (t' := s.toks) (o := .lst zs) (fun b o' q => sortedAll_old q) (Nat.le_succ _) ⟨hlz, out, cc, rz, hcc⟩, rfl, fin_mkL g (I.hok.fresh (Nat.le_succ _)) pz q⟩
  · rw [hs] at w1
    obtain ⟨p, kvs, rfl, h1, h2, h3⟩ := w1
    cases r1
    obtain ⟨z, lo, vs, rel, dd⟩ := dk_rd I.hok h1
    obtain ⟨ep, hat⟩ := dd.dictAt
    have hl : kvs.length = vs.length := rel.length
    refine Calls.call_function_entry kind_sorted plain_sorted entry_sorted (args_sorted1 _) ?_
    unfold Builtin.«sorted»
    refine wpAny_bind (m := checkCount "sorted" 1 1 _) (wpAny_pure ?_)
    refine wpAny_bind (PySem.W.kdu_collect (A := X.A.in1) (PySem.W.kdl_dict (knd := mixKind X.prog X.w) (kvs := vs) (ep := ep) lo) (I.ok.hd hc) hat (by rw [← hl]; exact z) fun h' tk acc hk hacc => ?_)
    have hal : acc.toList.length = vs.length := by rw [Array.length_toList, hacc.1]
    have I1 : Inv X pins σ H { s with heap := h', toks := tk } := I.kept hk
    have rv : Vals (kvs.map fun kv => kV kv.1) acc.toList := by
      have := keys_at hal fun j v e => hacc.2 j v (by rw [← Array.getElem?_toList]; exact e)
      have e2 : vs.map (fun p => kV p.1) = kvs.map fun kv => kV kv.1 := by
        have z1 : vs.map (fun p => kV p.1) = (vs.map (·.1)).map kV := by rw [List.map_map]; rfl
        have z2 : kvs.map (fun p => kV p.1) = (kvs.map (·.1)).map kV := by rw [List.map_map]; rfl
        rw [z1, z2, rel.keys]
      rw [e2] at this; exact this
    have rp : Rps X.K F m H (ks.map kD) (kvs.map fun kv => kV kv.1) := by
      have : ∀ (l : List Key), (∀ k ∈ l, k ∈ ks) → Rps X.K F m H (l.map kD) (l.map kV) := fun l => by
        induction l with
        | nil => intro _; exact Rps.nil
        | cons k t ih => intro h; exact Rps.cons (keysOk_rp hko (h k (by simp))) (ih fun k' h' => h k' (by simp [h']))
      have := this ks fun _ h => h
      rw [← h2, List.map_map, List.map_map] at this
      rw [← h2, List.map_map]; exact this
    have ee := each_of rp rv
    have hA : X.A.in1.in1.units + 70 < cLine := by
      have : X.A.in1.in1.units ≤ X.A.units + 10 := by simp [Around.in1]
      omega
    have hzl : acc.toList.length ≤ sizeLine := by rw [hal, ← hl]; exact z
    refine wpAny_bind (wpAny_newList ?_ hzl)
    have hoL : (h'.push (seqObj "list" acc.toList.toArray 0)).get? h'.objs.size = some (seqObj "list" acc.toList.toArray 0) := Heap.get?_push_size _ rfl
    refine wpAny_bind (wpAny_holding (wpAny_call_entry slot_list_sort ⟨_, hoL, rfl⟩ entry_list_sort (wpAny_mono (sort_tail (s := { s with heap := h', toks := tk }) I1 g ee ⟨c1, c2, c3, c4⟩ hzl hA q) (fun f s' hf => ?_) fun _ _ e => e) (args_list_sort _)))
    obtain ⟨rfl, hq⟩ := hf
    exact ⟨_, rfl, wpAny_pure ⟨_, rfl, hq⟩⟩)
  fun M ds P ⟨a, n, e, _⟩ => ⟨a, e⟩
end
end L3
namespace L3K
open PySem PySem.Spec PyProof.Rows L2
/-! ### sets of ints and texts: made of a list or tuple, counted, gathered -/
def valKey (v : Value) : Key := match v with | .int k _ => .inl k | .str x _ => .inr x | _ => .inl 0
theorem valKey_of {k : Key} {v : Value} (h : keyIs k v = true) : valKey v = k := by
  rcases keyIs_shape h with ⟨i, t, rfl, rfl⟩ | ⟨x, t, rfl, rfl⟩ <;> rfl
theorem key_scan' {k : Key} {v : Value} (h : keyIs k v = true) : v.scannable = true := by
  rcases keyIs_shape h with ⟨i, t, rfl, rfl⟩ | ⟨x, t, rfl, rfl⟩ <;> rfl
abbrev kyE (e : Int × Value) : Key := valKey e.2
section
variable {P : Program} {w : World} {h h' : Heap} {a : Addr} {S : Key → Bool} {n : Nat}
def GoodK (P : Program) (w : World) (e : Int × Value) : Prop := ∃ k, (mixKind P w).is k e.2 = true ∧ e.1 = (mixKind P w).hash k
/-- the set of keys at a: S its members, n their number -/
def SetRK (P : Program) (w : World) (h : Heap) (a : Addr) (S : Key → Bool) (n : Nat) : Prop :=
  ∃ o es ep t, h.get? a = some o ∧ o.ExactSet ∧ o.data = .set es ep t ∧ (∀ e ∈ es.toList, GoodK P w e) ∧ (es.toList.map kyE).Nodup ∧ (∀ k, S k = true ↔ k ∈ es.toList.map kyE) ∧
    es.size < scanBound ∧ t.fits es.size = true ∧ es.size = n ∧ Ris t.place.toList ∧ (w.params.followText "set-order" = true ∨ t.led = true)
theorem SetRK.at (R : SetRK P w h a S n) (k : ∀ o, h.get? a = some o → h'.get? a = some o) : SetRK P w h' a S n := by
  obtain ⟨o, es, ep, t, ho, r⟩ := R
  exact ⟨o, es, ep, t, k o ho, r⟩
theorem SetRK.congr {S' : Key → Bool} (R : SetRK P w h a S n) (e : ∀ k, S' k = S k) : SetRK P w h a S' n := by rw [show S' = S from funext e]; exact R
theorem goodK_elems {l : List (Int × Value)} (g : ∀ e ∈ l, GoodK P w e) : ElemsOf (mixKind P w) l := fun e he => by
  obtain ⟨k, h1, h2⟩ := g e he
  exact ⟨⟨k, h1, h2⟩, key_scan' h1⟩
theorem goodK_is {e : Int × Value} (g : GoodK P w e) (k : Key) : (mixKind P w).is k e.2 = true ↔ kyE e = k := by
  obtain ⟨k0, h1, _⟩ := g
  have e0 : kyE e = k0 := valKey_of h1
  constructor
  · intro h; exact valKey_of h
  · intro h; rw [← h, e0]; exact h1
theorem goodK_mem {l : List (Int × Value)} (g : ∀ e ∈ l, GoodK P w e) (k : Key) : k ∈ l.map kyE ↔ ∃ e ∈ l, (mixKind P w).is k e.2 = true := by
  rw [List.mem_map]
  exact ⟨fun ⟨e, he, q⟩ => ⟨e, he, (goodK_is (g e he) k).2 q⟩, fun ⟨e, he, q⟩ => ⟨e, he, (goodK_is (g e he) k).1 q⟩⟩
end
section
variable {P : Program} {w : World} {A : Around} {E : Value → Shared → Prop} {s : Shared} {a : Addr} {S : Key → Bool} {n : Nat}
theorem setRK_tail {gt : Bool → Sem Unit} (hg : ∀ (b : Bool) (s₁ : Shared) (Q' : Unit → Shared → Prop), Q' () s₁ → wpAny (model P w) A (gt b) Q' E s₁) {o : Obj} {es : Array (Int × Value)} {ep : Nat} {t : SetTable} (ho : s.heap.get? a = some o) (hex : o.ExactSet) (hd : o.data = .set es ep t)
    {es1 : Array (Int × Value)} {t2 : SetTable} {S' : Key → Bool} (g1 : ∀ e ∈ es1.toList, GoodK P w e) (nd1 : (es1.toList.map kyE).Nodup) (m1 : ∀ k, S' k = true ↔ k ∈ es1.toList.map kyE)
    (hb1 : es1.size < scanBound) (hf2 : t2.fits es1.size = true) (hr : Ris t2.place.toList) (hl : w.params.followText "set-order" = true ∨ t2.led = true) {wasDummy : Bool} {R : Option Bool → Shared → Prop}
    (hR : ∀ h', Heap.SameBut a s.heap h' → SetRK P w h' a S' es1.size → R (some true) { s with heap := h' }) :
    wpAny (model P w) A (do
        storeSet a es1 t2
        if (!wasDummy && t2.tooFull) = true then do
            gt (relayAll t2 es1 (SetTable.grown es1.size)).2.2
            storeSet a (relayAll t2 es1 (SetTable.grown es1.size)).1 (relayAll t2 es1 (SetTable.grown es1.size)).2.1
            pure (some true)
          else pure (some true)) R E s := by
  refine wpAny_bind (wpAny_storeSet_of ho hd ?_ (fits_of_scanBound hb1))
  have ho1 := store_at (es' := es1) (t' := t2) ho hd
  have sb1 := Heap.SameBut.update s.heap a (Obj.putSet es1 t2)
  split
  · have pm := relayAll_perm t2 es1 (SetTable.grown es1.size)
    have f3 := relayAll_fits t2 es1 (SetTable.grown es1.size)
    have r3 := relayAll_ris t2 es1 (SetTable.grown es1.size)
    have l3 := relayAll_led t2 es1 (SetTable.grown es1.size)
    generalize relayAll t2 es1 (SetTable.grown es1.size) = Z at pm f3 r3 l3 ⊢
    obtain ⟨es2, t3, gave⟩ := Z
    dsimp only at pm f3 r3 l3 ⊢
    have hsz : es2.size = es1.size := by rw [← Array.length_toList, pm.length_eq, Array.length_toList]
    have hb2 : es2.size < scanBound := by rw [hsz]; exact hb1
    refine wpAny_bind (hg _ _ _ (wpAny_bind (wpAny_storeSet_of ho1 rfl ?_ (fits_of_scanBound hb2))))
    refine wpAny_pure (hR _ (sb1.trans (Heap.SameBut.update _ a _)) ?_)
    exact ⟨_, es2, _, t3, store_at (es' := es2) (t' := t3) ho1 rfl, hex, rfl, fun e he => g1 e (pm.mem_iff.mp he), (pm.map kyE).nodup_iff.mpr nd1, fun k => (m1 k).trans (pm.map kyE).mem_iff.symm, hb2, f3, hsz, r3, hl.imp id fun z => by rw [l3]; exact z⟩
  · exact wpAny_pure (hR _ sb1 ⟨_, es1, _, t2, ho1, hex, rfl, g1, nd1, m1, hb1, hf2, rfl, hr, hl⟩)
theorem setRK_add {k : Key} {v : Value} {Q : Bool → Shared → Prop} (hk : keyIs k v = true) (R : SetRK P w s.heap a S n) (room : n + 1 < scanBound)
    (hQ : ∀ h', Heap.SameBut a s.heap h' → SetRK P w h' a (fun j => S j || decide (j = k)) (if S k = true then n else n + 1) → Q (!S k) { s with heap := h' }) :
    wpAny (model P w) A (setAddHashed a v ((mixKind P w).hash k)) Q E s := by
  obtain ⟨o, es, ep, t, ho, hex, hd, g, nd, hm, hb, hf, hn, hr, hl⟩ := R
  have hkey : (mixKind P w).is k v = true := hk
  have hsc : v.scannable = true := key_scan' hk
  have hel : ElemsOf (mixKind P w) es.toList := goodK_elems g
  unfold setAddHashed setAddHashedIn
  refine wpAny_holding (wpAny_bind (wpAny_setState_of ho hd hf ?_))
  dsimp only
  rw [byScan_of hsc hb hel]
  simp only [↓reduceIte]
  unfold setAddByScan
  refine wpAny_bind (wpAny_bind (wpAny_rule (wpAny_bind (wpAny_setScan_of hkey ho hd hf hel ?_))))
  cases hfi : List.findIdx? (fun e => (mixKind P w).is k e.2) es.toList with
  | some j =>
    dsimp only
    obtain ⟨hj, pj, _⟩ := List.findIdx?_eq_some_iff_getElem.mp hfi
    have hSk : S k = true := (hm k).2 ((goodK_mem (P := P) (w := w) g k).2 ⟨es.toList[j], List.getElem_mem hj, pj⟩)
    refine wpAny_pure (wpAny_pure ?_)
    have q := hQ s.heap (Heap.SameBut.refl a s.heap) ⟨o, es, ep, t, ho, hex, hd, g, nd, fun i => by
      rw [Bool.or_eq_true, decide_eq_true_eq, ← hm i]
      exact ⟨fun z => z.elim id (fun e => e ▸ hSk), .inl⟩, hb, hf, by rw [if_pos hSk]; exact hn, hr, hl⟩
    rw [hSk] at q; exact q
  | none =>
    dsimp only
    have hnk : k ∉ es.toList.map kyE := fun z => by
      obtain ⟨e, he, q⟩ := (goodK_mem (P := P) (w := w) g k).1 z
      have := List.findIdx?_eq_none_iff.mp hfi e he
      rw [q] at this; cases this
    have hSk : S k = false := by
      cases q : S k with
      | false => rfl
      | true => exact absurd ((hm k).1 q) hnk
    have hgw : ∀ (b : Bool) {s₁ : Shared} {Q' : Unit → Shared → Prop}, Q' () s₁ → wpAny (model P w) A (match b with | true => rule "set.scan.the-table-gave-way" | false => pure ()) Q' E s₁ := fun b s₁ Q' q => by
      cases b <;> first | exact wpAny_pure q | exact wpAny_rule q
    have pm := layNew_perm t es ((mixKind P w).hash k) v
    have f1 := layNew_fits t es ((mixKind P w).hash k) v
    have r1 := layNew_ris t es ((mixKind P w).hash k) v hr
    have l1 := layNew_led t es ((mixKind P w).hash k) v
    generalize layNew t es ((mixKind P w).hash k) v = Z at pm f1 r1 l1 ⊢
    obtain ⟨es1, t1, wasDummy, gave⟩ := Z
    dsimp only at pm f1 r1 l1 ⊢
    rw [Array.toList_push] at pm
    have pc : es1.toList.Perm (((mixKind P w).hash k, v) :: es.toList) := pm.trans (List.perm_append_singleton _ _)
    have pk : (es1.toList.map kyE).Perm (k :: es.toList.map kyE) := by
      have := pc.map kyE
      rw [List.map_cons, show kyE ((mixKind P w).hash k, v) = k from valKey_of hk] at this
      exact this
    have g1 : ∀ e ∈ es1.toList, GoodK P w e := fun e he => by
      rcases List.mem_cons.mp (pc.mem_iff.mp he) with z | z
      · rw [z]; exact ⟨k, hkey, rfl⟩
      · exact g e z
    have nd1 : (es1.toList.map kyE).Nodup := pk.nodup_iff.mpr (List.nodup_cons.mpr ⟨hnk, nd⟩)
    have m1 : ∀ i, (S i || decide (i = k)) = true ↔ i ∈ es1.toList.map kyE := fun i => by
      rw [Bool.or_eq_true, decide_eq_true_eq, hm i, pk.mem_iff, List.mem_cons]
      exact Or.comm
    have hsz : es1.size = n + 1 := by rw [← Array.length_toList, pc.length_eq, List.length_cons, Array.length_toList, hn]
    have hb1 : es1.size < scanBound := by rw [hsz]; exact room
    have hled : w.params.followText "set-order" = true ∨ t1.led = true := hl.imp id fun z => by rw [l1]; exact z
    have fin : ∀ h', Heap.SameBut a s.heap h' → SetRK P w h' a (fun j => S j || decide (j = k)) es1.size → Q true { s with heap := h' } := fun h' sb r => by
      have q := hQ h' sb
      rw [hSk] at q
      rw [hsz] at r
      exact q r
    refine wpAny_bind (hgw _ ?_)
    split
    · refine wpAny_bind ?_
      rw [hashByValue_scannable 8 hsc]
      refine wpAny_pure (setRK_tail ?_ ho hex hd g1 nd1 m1 hb1 ?_ ?_ ?_ ?_)
      · intro b s₁ Q' q; cases b <;> first | exact wpAny_pure q | exact wpAny_rule q
      · first | (split <;> first | exact f1 | exact SetTable.fits_plain_off f1) | exact f1
      · first | (split <;> exact r1) | exact r1
      · first | (split <;> exact hled) | exact hled
      · intro h' sb r; dsimp only; exact wpAny_pure (fin h' sb r)
    · refine wpAny_bind (wpAny_pure ?_)
      simp only [↓reduceIte]
      refine setRK_tail ?_ ho hex hd g1 nd1 m1 hb1 f1 r1 hled ?_
      · intro b s₁ Q' q; cases b <;> first | exact wpAny_pure q | exact wpAny_rule q
      · intro h' sb r; dsimp only; exact wpAny_pure (fin h' sb r)
theorem setRK_new {h : Heap} {a : Addr} {ks : List Key} (ho : h.get? a = some { cls := .type "set", dict := none, data := .set #[] 0 (.fresh 0 0 (!w.params.followText "set-order")) }) : SetRK P w h a (fun j => L3.memK j (ks.take 0)) 0 :=
  ⟨_, #[], 0, _, ho, ⟨rfl, rfl, rfl⟩, rfl, (fun e he => by simp at he), (by simp), (fun k => by simp [L3.memK]), (by decide), (by rfl), rfl, List.Pairwise.nil, by
    show _ ∨ (!w.params.followText "set-order") = true
    cases w.params.followText "set-order" <;> simp⟩
theorem set_update_keys {I : Addr} {fp wr : List Addr} {G : Array GenState → Array GenState → Prop} {n : Nat} {Pv : Nat → Value → Prop} {St : Nat → Shared → Prop} {R : Result → Shared → Prop} (W : WalksS P w A.in1 I fp wr G n Pv St) (S : Addr) (hSf : S ∉ fp) (ks : List Key)
    (hn : n = ks.length) (hb : ks.length + 1 < scanBound) (hval : ∀ i v, Pv i v → ∃ k, ks[i]? = some k ∧ keyIs k v = true) :
    ∀ (k i : Nat) (s : Shared), n - i = k → i ≤ n → St i s → (∃ c, c ≤ i ∧ SetRK P w s.heap S (fun j => L3.memK j (ks.take i)) c) → (∀ s' c, Moved (S :: wr) G s s' → c ≤ n → SetRK P w s'.heap S (fun j => L3.memK j ks) c → R (.ok (.ret .none)) s') →
      codeAny (model P w) A (.builtin "set.update.loop" ⟨[.ref S, .ref I], []⟩) R s := by
  have hSw : S ∉ wr := fun h => hSf (W.sub _ h)
  have hsub : ∀ b ∈ wr, b ∈ S :: wr := fun b hb => List.mem_cons_of_mem _ hb
  intro k
  induction k with
  | zero =>
    intro i s hk' hi hst ⟨c, hc, hS⟩ hR
    have hin : i = n := by omega
    subst hin
    refine codeAny_builtin F.entry_set_update_loop ?_
    rw [Around.under_plainId F.plain_set_update_loop _]
    show wpAny (model P w) A.in1 (pyNext (.ref I) >>= _) _ _ s
    refine wpAny_bind (W.done s _ _ hst fun s' hm => ?_)
    show wpAny (model P w) A.in1 (ret Value.none) _ _ s'
    rw [show ks.take i = ks from List.take_of_length_le (by omega)] at hS
    exact wpAny_pure (hR s' c (hm.mono hsub) hc (hS.at fun o e => hm.heap S o hSw e))
  | succ k ih =>
    intro i s hk' hi hst ⟨c, hc, hS⟩ hR
    have hlt : i < n := by omega
    refine codeAny_builtin F.entry_set_update_loop ?_
    rw [Around.under_plainId F.plain_set_update_loop _]
    show wpAny (model P w) A.in1 (pyNext (.ref I) >>= _) _ _ s
    refine wpAny_bind (W.item i s _ _ hlt hst fun v s' hP hst' hm => ?_)
    obtain ⟨z, hz, hkv⟩ := hval i v hP
    have hS' : SetRK P w s'.heap S (fun j => L3.memK j (ks.take i)) c := hS.at fun o e => hm.heap S o hSw e
    show wpAny (model P w) A.in1 (holding [v] (setAdd S v) >>= _) _ _ s'
    refine wpAny_bind (wpAny_holding ?_)
    unfold setAdd
    refine wpAny_holding (wpAny_bind ((mixKind P w).pyHash (k := z) hkv ?_))
    refine setRK_add (s := { s' with toks := s'.toks + 1 }) hkv hS' (by omega) fun h' hsb hS2 => ?_
    have hS3 : SetRK P w h' S (fun j => L3.memK j (ks.take (i + 1))) (if L3.memK z (ks.take i) = true then c else c + 1) := hS2.congr fun j => by
      rw [List.take_add_one, hz]
      simp [L3.memK, eq_comm]
    have hc3 : (if L3.memK z (ks.take i) = true then c else c + 1) ≤ i + 1 := by split <;> omega
    refine wpAny_pure ⟨plainId_quiet F.plain_set_update_loop _, ih (i + 1) _ (by omega) hlt (W.frame _ s' _ _ hst' (Nat.le_succ _) fun b hb o e => ?_) ⟨_, hc3, hS3⟩ fun s2 c2 hm2 hc2 hS2' => ?_⟩
    · rw [hsb.2 b (fun h : b = S => hSf (by rw [← h]; exact hb))]; exact e
    · refine hR s2 c2 (Moved.trans W.gtrans ((hm.mono hsub).then_heap (Nat.le_succ _) fun b o hb e => ?_) hm2) hc2 hS2'
      rw [hsb.2 b (fun h : b = S => hb (by rw [h]; exact List.mem_cons_self))]; exact e
end
end L3K
namespace L3K
open PySem PySem.Spec PyProof.Rows L2
abbrev set0 (w : World) : Obj := { cls := .type "set", dict := none, data := .set #[] 0 (.fresh 0 0 (!w.params.followText "set-order")) }
section
variable {P : Program} {w : World} {A : Around} {E : Value → Shared → Prop} {s : Shared}
set_option maxRecDepth 100000 in
theorem call_set_keysL {l : Addr} {items : Array Value} (ks : List Key) {Q : Value → Shared → Prop} (hh : A.handled = none) (hl : s.heap.IsList l items) (hit : ∀ (i : Nat) (v : Value), items[i]? = some v → ∃ k, ks[i]? = some k ∧ keyIs k v = true) (hisz : items.size = ks.length) (hb : ks.length + 1 < scanBound)
    (h : ∀ (h' : Heap) (tk c : Nat), SetRK P w h' s.heap.objs.size (fun j => L3.memK j ks) c → (∀ b o, s.heap.get? b = some o → h'.get? b = some o) → Q (.ref s.heap.objs.size) { s with heap := h', toks := tk }) : wpAny (model P w) A (call (.type "set") [.ref l]) Q E s := by
  obtain ⟨c0, tl, hmro⟩ := F.called_set.mro
  have f1 := F.called_set.made
  have f2 := F.called_set.sub
  refine wpAny_call (codeAny_of_tree ?_)
  show wpAny (model P w) _ (callAny (.type "set") _) _ _ _
  refine wpAny_pure ⟨Code.quiet_builtin _ (by decide +kernel), codeAny_builtin F.entry_type_call ?_⟩
  rw [Around.under_plain (weight_type_call_type "set" [.ref l] []) rfl]
  have f3 := F.called_set.notType
  have f4 := F.called_set.canCreate
  have f5 := F.typeCall_set_1 (.ref l)
  repeat (any_goals (first | assumption | wp_step))
  refine codeAny_mono (code_set_led1 (.ref l) (E := E) (Q₁ := fun obj s₁ => obj = .ref s.heap.objs.size ∧ s₁ = { s with heap := s.heap.push (set0 w) }) ⟨rfl, rfl⟩) fun r s1 hr => ?_
  cases r with
  | error e => exact hr
  | ok fl =>
    cases fl with
    | ret obj =>
      obtain ⟨rfl, rfl⟩ := hr
      have hS : (s.heap.push (set0 w)).get? s.heap.objs.size = some (set0 w) := Heap.get?_push_size _ rfl
      have hT : Shared.TypeIs { s with heap := s.heap.push (set0 w) } (.ref s.heap.objs.size) "set" := ⟨_, hS, rfl⟩
      have hli := F.called_set.init.lookup
      have hbi := F.called_set.init.bind (.ref s.heap.objs.size)
      repeat (any_goals (first | assumption | wp_step))
      refine codeAny_mono (codeAny_call_builtin (R := wants (fun r s₂ => r = .none ∧ ∃ h' tk c, s₂ = { s with heap := h', toks := tk } ∧ SetRK P w h' s.heap.objs.size (fun j => L3.memK j ks) c ∧ (∀ b o, s.heap.get? b = some o → h'.get? b = some o)) E) F.called_set.init.plain F.entry_set_init (check_set_init_1 hT ?_)) fun r2 s2 hr2 => ?_
      · obtain ⟨ol, hol, hcl, nl, hdl⟩ := hl
        obtain ⟨ocls, odict, odata, oslots⟩ := ol
        simp only at hcl hdl
        subst hcl hdl
        have hol' : (s.heap.push (set0 w)).get? l = some { cls := .type "list", dict := odict, data := .seq items nl, slots := oslots } := Heap.get?_push_of_some _ hol
        have f6 := F.sub_list_set
        have f7 := F.sub_list_frozenset
        have f8 : (Value.type "list" == Value.type "dict") = false := by decide
        have hl1 : (s.heap.push (set0 w)).IsList l items := ⟨_, hol', rfl, nl, rfl⟩
        unfold Builtin.«set.__init__» noKeywords Builtin.Frozenset.updateFrom
        generalize hPI : pyIter = PI
        wp_walk
        subst hPI
        refine wpAny_pyIter_list hl1 (wpAny_bind (wpAny_runValue ?_))
        have hlS : l < s.heap.objs.size := Heap.lt_size hol
        have hh3 : A.in1.in1.in1.handled = none := by simp [hh]
        have hneI : l ≠ (s.heap.push (set0 w)).objs.size := by rw [Heap.size_push]; exact Nat.ne_of_lt (Nat.lt_succ_of_lt hlS)
        have hSf : s.heap.objs.size ∉ [(s.heap.push (set0 w)).objs.size, l] := by
          rw [Heap.size_push]; simp only [List.mem_cons, List.mem_singleton, List.not_mem_nil, or_false, not_or]
          exact ⟨Nat.ne_of_lt (Nat.lt_succ_self _), Nat.ne_of_gt hlS⟩
        refine set_update_keys ((Walks.list hh3 _ l hneI items).toS) s.heap.objs.size hSf ks hisz hb hit (items.size - 0) 0 _ (by omega) (Nat.zero_le _) ⟨⟨_, Heap.get?_push_size _ rfl, rfl, rfl⟩, (hl1.push _)⟩ ?hS0 ?hR
        case hS0 =>
          have hget : ((s.heap.push (set0 w)).push { cls := .type "list_iterator", data := .fields #[.ref l, .int 0 0] }).get? s.heap.objs.size = some (set0 w) := Heap.get?_push_of_some _ hS
          exact ⟨0, Nat.le_refl 0, setRK_new hget⟩
        case hR =>
          intro s3 c' hm hc' hS'
          obtain ⟨h', g2, d', tk', os'⟩ := s3
          have eg : g2 = s.gens := hm.gens
          have ed : d' = s.drawn := hm.drawn
          have eo : os' = s.os := hm.os
          subst eg ed eo
          show wpAny (model P w) _ _ _ _ _
          refine wpAny_pure ?_
          show wpAny (model P w) _ (ret Value.none) _ _ _
          refine wpAny_pure ⟨rfl, h', tk', c', rfl, hS', fun b o e => ?_⟩
          have hb0 : b < s.heap.objs.size := Heap.lt_size e
          have hb1 : b ≠ s.heap.objs.size := Nat.ne_of_lt hb0
          have hb2 : b ≠ (s.heap.push (set0 w)).objs.size := by rw [Heap.size_push]; exact Nat.ne_of_lt (Nat.lt_succ_of_lt hb0)
          exact hm.heap b o (by simp only [List.mem_cons, List.mem_singleton, List.not_mem_nil, or_false, not_or]; exact ⟨hb1, hb2⟩) (Heap.get?_push_of_some _ (Heap.get?_push_of_some _ e))
      · cases r2 with
        | error e => exact hr2
        | ok fl2 =>
          cases fl2 with
          | ret r =>
            obtain ⟨rfl, h', tk, c, rfl, hS', hk'⟩ := hr2
            repeat (any_goals (first | assumption | wp_step))
            exact h _ _ _ hS' hk'
          | _ => exact hr2.elim
    | _ => exact hr.elim
set_option maxRecDepth 100000 in
theorem call_set_keysT {l : Addr} {items : Array Value} (ks : List Key) {Q : Value → Shared → Prop} (hh : A.handled = none) (hl : s.heap.IsTuple l items) (hit : ∀ (i : Nat) (v : Value), items[i]? = some v → ∃ k, ks[i]? = some k ∧ keyIs k v = true) (hisz : items.size = ks.length) (hb : ks.length + 1 < scanBound)
    (h : ∀ (h' : Heap) (tk c : Nat), SetRK P w h' s.heap.objs.size (fun j => L3.memK j ks) c → (∀ b o, s.heap.get? b = some o → h'.get? b = some o) → Q (.ref s.heap.objs.size) { s with heap := h', toks := tk }) : wpAny (model P w) A (call (.type "set") [.ref l]) Q E s := by
  obtain ⟨c0, tl, hmro⟩ := F.called_set.mro
  have f1 := F.called_set.made
  have f2 := F.called_set.sub
  refine wpAny_call (codeAny_of_tree ?_)
  show wpAny (model P w) _ (callAny (.type "set") _) _ _ _
  refine wpAny_pure ⟨Code.quiet_builtin _ (by decide +kernel), codeAny_builtin F.entry_type_call ?_⟩
  rw [Around.under_plain (weight_type_call_type "set" [.ref l] []) rfl]
  have f3 := F.called_set.notType
  have f4 := F.called_set.canCreate
  have f5 := F.typeCall_set_1 (.ref l)
  repeat (any_goals (first | assumption | wp_step))
  refine codeAny_mono (code_set_led1 (.ref l) (E := E) (Q₁ := fun obj s₁ => obj = .ref s.heap.objs.size ∧ s₁ = { s with heap := s.heap.push (set0 w) }) ⟨rfl, rfl⟩) fun r s1 hr => ?_
  cases r with
  | error e => exact hr
  | ok fl =>
    cases fl with
    | ret obj =>
      obtain ⟨rfl, rfl⟩ := hr
      have hS : (s.heap.push (set0 w)).get? s.heap.objs.size = some (set0 w) := Heap.get?_push_size _ rfl
      have hT : Shared.TypeIs { s with heap := s.heap.push (set0 w) } (.ref s.heap.objs.size) "set" := ⟨_, hS, rfl⟩
      have hli := F.called_set.init.lookup
      have hbi := F.called_set.init.bind (.ref s.heap.objs.size)
      repeat (any_goals (first | assumption | wp_step))
      refine codeAny_mono (codeAny_call_builtin (R := wants (fun r s₂ => r = .none ∧ ∃ h' tk c, s₂ = { s with heap := h', toks := tk } ∧ SetRK P w h' s.heap.objs.size (fun j => L3.memK j ks) c ∧ (∀ b o, s.heap.get? b = some o → h'.get? b = some o)) E) F.called_set.init.plain F.entry_set_init (check_set_init_1 hT ?_)) fun r2 s2 hr2 => ?_
      · obtain ⟨ol, hol, hcl, nl, hdl⟩ := hl
        obtain ⟨ocls, odict, odata, oslots⟩ := ol
        simp only at hcl hdl
        subst hcl hdl
        have hol' : (s.heap.push (set0 w)).get? l = some { cls := .type "tuple", dict := odict, data := .seq items nl, slots := oslots } := Heap.get?_push_of_some _ hol
        have f6 := F.sub_tuple_set
        have f7 := F.sub_tuple_frozenset
        have f8 : (Value.type "tuple" == Value.type "dict") = false := by decide
        have hl1 : (s.heap.push (set0 w)).IsTuple l items := ⟨_, hol', rfl, nl, rfl⟩
        unfold Builtin.«set.__init__» noKeywords Builtin.Frozenset.updateFrom
        generalize hPI : pyIter = PI
        wp_walk
        subst hPI
        refine wpAny_pyIter_tuple hl1 (wpAny_bind (wpAny_runValue ?_))
        have hlS : l < s.heap.objs.size := Heap.lt_size hol
        have hh3 : A.in1.in1.in1.handled = none := by simp [hh]
        have hneI : l ≠ (s.heap.push (set0 w)).objs.size := by rw [Heap.size_push]; exact Nat.ne_of_lt (Nat.lt_succ_of_lt hlS)
        have hSf : s.heap.objs.size ∉ [(s.heap.push (set0 w)).objs.size, l] := by
          rw [Heap.size_push]; simp only [List.mem_cons, List.mem_singleton, List.not_mem_nil, or_false, not_or]
          exact ⟨Nat.ne_of_lt (Nat.lt_succ_self _), Nat.ne_of_gt hlS⟩
        refine set_update_keys ((Walks.tuple hh3 _ l hneI items).toS) s.heap.objs.size hSf ks hisz hb hit (items.size - 0) 0 _ (by omega) (Nat.zero_le _) ⟨⟨_, Heap.get?_push_size _ rfl, rfl, rfl⟩, (hl1.push _)⟩ ?hS0 ?hR
        case hS0 =>
          have hget : ((s.heap.push (set0 w)).push { cls := .type "tuple_iterator", data := .fields #[.ref l, .int 0 0] }).get? s.heap.objs.size = some (set0 w) := Heap.get?_push_of_some _ hS
          exact ⟨0, Nat.le_refl 0, setRK_new hget⟩
        case hR =>
          intro s3 c' hm hc' hS'
          obtain ⟨h', g2, d', tk', os'⟩ := s3
          have eg : g2 = s.gens := hm.gens
          have ed : d' = s.drawn := hm.drawn
          have eo : os' = s.os := hm.os
          subst eg ed eo
          show wpAny (model P w) _ _ _ _ _
          refine wpAny_pure ?_
          show wpAny (model P w) _ (ret Value.none) _ _ _
          refine wpAny_pure ⟨rfl, h', tk', c', rfl, hS', fun b o e => ?_⟩
          have hb0 : b < s.heap.objs.size := Heap.lt_size e
          have hb1 : b ≠ s.heap.objs.size := Nat.ne_of_lt hb0
          have hb2 : b ≠ (s.heap.push (set0 w)).objs.size := by rw [Heap.size_push]; exact Nat.ne_of_lt (Nat.lt_succ_of_lt hb0)
          exact hm.heap b o (by simp only [List.mem_cons, List.mem_singleton, List.not_mem_nil, or_false, not_or]; exact ⟨hb1, hb2⟩) (Heap.get?_push_of_some _ (Heap.get?_push_of_some _ e))
      · cases r2 with
        | error e => exact hr2
        | ok fl2 =>
          cases fl2 with
          | ret r =>
            obtain ⟨rfl, h', tk, c, rfl, hS', hk'⟩ := hr2
            repeat (any_goals (first | assumption | wp_step))
            exact h _ _ _ hS' hk'
          | _ => exact hr2.elim
    | _ => exact hr.elim
end
end L3K
namespace L3
open PySem PySem.Spec PyProof.Rows L2
/-! ### len(set(..)), sorted(set(..)) -/
def dedupK : List Key → List Key
  | [] => []
  | k :: r => if memK k r = true then dedupK r else k :: dedupK r
theorem memK_iff {k : Key} {ks : List Key} : memK k ks = true ↔ k ∈ ks := by
  unfold memK
  rw [List.any_eq_true]
  constructor
  · rintro ⟨x, hx, e⟩; rw [decide_eq_true_eq] at e; rw [← e]; exact hx
  · intro h; exact ⟨k, h, by simp⟩
theorem dedupK_mem {k : Key} : ∀ {ks : List Key}, k ∈ dedupK ks ↔ k ∈ ks
  | [] => Iff.rfl
  | x :: r => by
    unfold dedupK
    split
    · rename_i h
      rw [dedupK_mem, List.mem_cons]
      refine ⟨.inr, fun z => z.elim (fun e => ?_) id⟩
      rw [e]; exact memK_iff.mp h
    · rw [List.mem_cons, List.mem_cons, dedupK_mem]
theorem dedupK_nodup : ∀ ks : List Key, (dedupK ks).Nodup
  | [] => List.nodup_nil
  | x :: r => by
    unfold dedupK
    split
    · exact dedupK_nodup r
    · rename_i h
      exact List.nodup_cons.mpr ⟨fun z => h (memK_iff.mpr (dedupK_mem.mp z)), dedupK_nodup r⟩
theorem perm_mem {α : Type} [DecidableEq α] : ∀ {l m : List α}, l.Nodup → m.Nodup → (∀ x, x ∈ l ↔ x ∈ m) → l.Perm m := by
  intro l
  induction l with
  | nil =>
    intro m _ _ h
    cases m with
    | nil => exact .nil
    | cons a t => exact absurd ((h a).mpr (by simp)) (by simp)
  | cons a l ih =>
    intro m nl nm h
    obtain ⟨n1, n2⟩ := List.nodup_cons.mp nl
    have ha : a ∈ m := (h a).mp (by simp)
    have p : m.Perm (a :: m.erase a) := List.perm_cons_erase ha
    have nm2 := p.nodup_iff.mp nm
    obtain ⟨k1, k2⟩ := List.nodup_cons.mp nm2
    refine (List.Perm.cons a (ih n2 k2 fun x => ?_)).trans p.symm
    have hx := h x
    rw [p.mem_iff, List.mem_cons, List.mem_cons] at hx
    constructor
    · intro z
      rcases hx.mp (.inr z) with e | e
      · rw [e] at z; exact absurd z n1
      · exact e
    · intro z
      rcases hx.mpr (.inr z) with e | e
      · rw [e] at z; exact absurd z k1
      · exact e
theorem kD_toks {a b : Key} (h : PySem.W.keyToks (D.toP (kD a)) = PySem.W.keyToks (D.toP (kD b))) : a = b := by
  cases a <;> cases b <;> simp only [kD, D.toP, PySem.W.keyToks, List.cons.injEq, Sum.inl.injEq, Sum.inr.injEq, and_true, reduceCtorEq] at h
  · rw [h]
  · rw [PySem.W.str_of_cps h]
theorem sortD_perm {xs ys : List D} (h : xs.Perm ys) (ha : ∀ a b, a ∈ xs → b ∈ xs → PySem.W.keyToks a.toP = PySem.W.keyToks b.toP → a = b) : sortD xs = sortD ys := by
  have T := PySem.W.sortLe_total (listOrd itemOrd) false fun b : D => PySem.W.keyToks b.toP
  have s1 : (sortD xs).Pairwise fun a b => PySem.W.dataLe false D.toP a b = true := List.pairwise_mergeSort T.trans (fun a b => by simpa using T.total a b) xs
  have s2 : (sortD ys).Pairwise fun a b => PySem.W.dataLe false D.toP a b = true := List.pairwise_mergeSort T.trans (fun a b => by simpa using T.total a b) ys
  have p1 : (sortD xs).Perm xs := List.mergeSort_perm _ _
  have p2 : (sortD ys).Perm ys := List.mergeSort_perm _ _
  refine List.Perm.eq_of_pairwise (le := fun a b => PySem.W.dataLe false D.toP a b = true) (fun a b h1 h2 l1 l2 => ?_) s1 s2 ((p1.trans h).trans p2.symm)
  have m1 : a ∈ xs := p1.mem_iff.mp h1
  have m2 : b ∈ xs := h.mem_iff.mpr (p2.mem_iff.mp h2)
  refine ha a b m1 m2 (lex_total (O := itemOrd) _ _ ?_ ?_)
  · have : (!(PyProof.Rows.lexLt itemOrd (PySem.W.keyToks a.toP) (PySem.W.keyToks b.toP))) = true := l2
    simpa using this
  · have : (!(PyProof.Rows.lexLt itemOrd (PySem.W.keyToks b.toP) (PySem.W.keyToks a.toP))) = true := l1
    simpa using this
def keysOf : List D → Option (List Key)
  | [] => some []
  | d :: r => match keyD d, keysOf r with
    | some k, some t => some (k :: t)
    | _, _ => none
theorem keysOf_ok (P : Program) (w : PySem.World) {K : PySem.W.Frag} {F : Addr → Prop} {m : List Addr} {H : Hp} : ∀ {xs : List D} {ys : List V} {vs : List Value} {ks : List Key}, Rps K F m H xs ys → Vals ys vs → keysOf xs = some ks →
    vs.length = ks.length ∧ ∀ (i : Nat) (v : Value), vs[i]? = some v → ∃ k, ks[i]? = some k ∧ keyIs k v = true
  | [], _, _, ks, h, r, e => by
    obtain rfl := Rps.nil_inv h
    cases r
    simp only [keysOf, Option.some.injEq] at e; subst e
    exact ⟨rfl, fun i v q => by simp at q⟩
  | d :: ds, _, _, ks, h, r, e => by
    obtain ⟨x, t, rfl, h1, h2⟩ := Rps.cons_inv h
    cases r with
    | @cons _ u _ us r1 r2 =>
    simp only [keysOf] at e
    cases q1 : keyD d with
    | none => rw [q1] at e; cases e
    | some k =>
      cases q2 : keysOf ds with
      | none => rw [q1, q2] at e; cases e
      | some t =>
        rw [q1, q2] at e; cases e
        obtain ⟨e1, e2⟩ := keysOf_ok P w h2 r2 q2
        obtain rfl := rp_key h1 q1
        refine ⟨by simp [e1], fun i v q => ?_⟩
        cases i with
        | zero => simp at q; subst q; exact ⟨k, rfl, kV_is (P := P) (w := w) r1⟩
        | succ i => simpa using e2 i v (by simpa using q)
/-- set(e) stands behind it -/
def dSetK (te : TD) (P : List Key → Env3 → St3 → Prop) : Env3 → St3 → Prop := fun env M => te env M fun a M1 => ∃ xs ks, seqD (vw M1 a) = some xs ∧ keysOf xs = some ks ∧ ks.length < 4000 ∧ P ks env M1
def dLenSet (te : TD) : TD := fun env M P => dSetK te (fun ks _ M1 => P (.int (dedupK ks).length) M1) env M
def keyS (ks : List Key) : Prop := sortC (ks.map kD) ∧ keysOk ks
def dSortSet (o : Bool) (te : TD) : TD := fun env M P => dSetK te (fun ks _ M1 => keyS (dedupK ks) ∧ mkLst o (sortD ((dedupK ks).map kD)) M1 P) env M
section
variable {X : Cx} {c : Ctx} {a : Expr} {te : TD} {p p2 q pos : Pos}
theorem set_call (hc : X.calm = true) {pins : List (Addr × Obj)} {s : Shared} {σ : L2.St} {H : Hp} {F : Addr → Prop} {m : List Addr} {M : St3} {x : V} {v : Value} {d : D} {xs : List D} {ks : List Key} {Q : Value → Shared → Prop} (I : Inv X pins σ H s) (rx : RelV x v) (g : Good X.K F m H M) (rp : Rp X.K F m H d x) (h1 : seqD (vw M d) = some xs) (h2 : keysOf xs = some ks)
    (hz : ks.length < 4000) (h : ∀ (h' : Heap) (tk n : Nat), L3K.SetRK X.prog X.w h' s.heap.objs.size (fun j => memK j ks) n → Inv X pins σ H { s with heap := h', toks := tk } → Q (.ref s.heap.objs.size) { s with heap := h', toks := tk }) :
    wpAny (model X.prog X.w) X.A (call (.type "set") [v]) Q X.xe s := by
  have w1 := g.look rp
  have hb : ks.length + 1 < scanBound := by unfold scanBound; omega
  revert w1 h1
  cases vw M d <;> intro h1 w1 <;> simp only [seqD, Option.some.injEq, reduceCtorEq] at h1 <;> subst h1
  · simp only [RpW, Rp] at w1
    obtain ⟨l, ys, rfl, k1, k2⟩ := w1
    cases rx
    obtain ⟨its, rv, pl, _⟩ := I.tuple k1.sq
    obtain ⟨e1, e2⟩ := keysOf_ok X.prog X.w k2 rv h2
    exact L3K.call_set_keysT (items := its.toArray) ks (I.ok.hd hc) pl (fun i v hv => e2 i v (by simpa using hv)) (by simpa using e1) hb fun h' tk c r k => h h' tk c r (I.kept (t' := tk) k)
  · obtain ⟨l, ys, rfl, k1, k2⟩ := w1
    cases rx
    obtain ⟨its, rv, pl, _⟩ := I.list k1
    obtain ⟨e1, e2⟩ := keysOf_ok X.prog X.w k2 rv h2
    exact L3K.call_set_keysL (items := its.toArray) ks (I.ok.hd hc) pl.isList (fun i v hv => e2 i v (by simpa using hv)) (by simpa using e1) hb fun h' tk c r k => h h' tk c r (I.kept (t' := tk) k)
theorem set_perm {P : Program} {w : PySem.World} {h : Heap} {a : Addr} {ks : List Key} {n : Nat} {es : Array (Int × Value)} (nd : (es.toList.map L3K.kyE).Nodup) (hm : ∀ k, memK k ks = true ↔ k ∈ es.toList.map L3K.kyE) : (es.toList.map L3K.kyE).Perm (dedupK ks) :=
  perm_mem nd (dedupK_nodup ks) fun k => by rw [← hm k, memK_iff, dedupK_mem]
theorem pd_lenSet (hc : X.calm = true) (hg : Gl X "len") (hm : X.mg "len" = none) (hg2 : Gl X "set") (hm2 : X.mg "set" = none) (ha : PD X c a te) (na : starEach [a] X.env = (false, eval a X.env) :: starEach [] X.env)
    (na2 : starEach [.Call (.Name "set" p2) [a] [] q] X.env = (false, eval (.Call (.Name "set" p2) [a] [] q) X.env) :: starEach [] X.env) : PD X c (.Call (.Name "len" p) [.Call (.Name "set" p2) [a] [] q] [] pos) (dLenSet te) := by
  refine ⟨fun pins s σ H F m M env P I w r h => ?_⟩
  refine Call_ (ld_blt I hg hm boot_len ?_)
  refine PyProof.Rows.callWith_builtin1 (PyProof.Rows.args_cons ?_ na2) na2 rfl
  refine Call_ (ld_blt I hg2 hm2 boot_set ?_)
  refine PyProof.Rows.callWith_type1 (PyProof.Rows.args_cons (thn (ha.run pins s σ H F m M env _ I w r h) fun v s1 ⟨x, H1, I1, r1, d, M1, F1, m1, ⟨xs, ks, h1, h2, hz, q1⟩, e1, g1, rp⟩ => PyProof.Rows.args_nil ?_) na) na rfl
  refine set_call hc I1 r1 g1 rp h1 h2 hz fun h' tk n R I2 => PyProof.Rows.args_nil ?_
  obtain ⟨o, es, ep, t, ho, hex, hd, gk, nd, hmem, hb, hf, hn, _⟩ := R
  have pm := set_perm (P := X.prog) (w := X.w) (h := h') (a := 0) (n := n) nd hmem
  have hl : es.size = (dedupK ks).length := by rw [← pm.length_eq, List.length_map, Array.length_toList]
  refine call_len_set ho hex hd hf (by have : es.size < 4096 := hb; omega) ⟨.int (dedupK ks).length, H1, I2.tok _, ⟨_, by rw [hl]⟩, .int (dedupK ks).length, M1, F1, m1, q1, e1, g1, by simp [Rp]⟩
theorem vals_keys {vs : List Value} (h : ∀ v ∈ vs, ∃ k, keyIs k v = true) : Vals (vs.map fun v => kV (L3K.valKey v)) vs := by
  induction vs with
  | nil => exact .nil
  | cons v t ih =>
    obtain ⟨k, hk⟩ := h v (by simp)
    refine .cons ?_ (ih fun u hu => h u (by simp [hu]))
    show L2.RelV (kV (L3K.valKey v)) v
    rw [L3K.valKey_of hk]
    rcases keyIs_shape hk with ⟨i, t, rfl, rfl⟩ | ⟨x, t, rfl, rfl⟩ <;> exact ⟨t, rfl⟩
theorem rps_keys {K : PySem.W.Frag} {F : Addr → Prop} {m : List Addr} {H : Hp} {ks : List Key} (h : keysOk ks) : ∀ {l : List Key}, (∀ k ∈ l, k ∈ ks) → Rps K F m H (l.map kD) (l.map kV)
  | [], _ => Rps.nil
  | k :: t, hl => Rps.cons (keysOk_rp h (hl k (by simp))) (rps_keys h fun k' h' => hl k' (by simp [h']))
theorem pd_sortSet {o : Bool} (hc : X.calm = true) (hu : X.A.units + 80 < cLine) (hg : Gl X "sorted") (hm : X.mg "sorted" = none) (hg2 : Gl X "set") (hm2 : X.mg "set" = none) (ha : PD X c a te) (na : starEach [a] X.env = (false, eval a X.env) :: starEach [] X.env)
    (na2 : starEach [.Call (.Name "set" p2) [a] [] q] X.env = (false, eval (.Call (.Name "set" p2) [a] [] q) X.env) :: starEach [] X.env) : PD X c (.Call (.Name "sorted" p) [.Call (.Name "set" p2) [a] [] q] [] pos) (dSortSet o te) := by
  refine ⟨fun pins s σ H F m M env P I w r h => ?_⟩
  refine Call_ (ld_blt I hg hm boot_sorted ?_)
  refine PyProof.Rows.callWith_builtin1 (PyProof.Rows.args_cons ?_ na2) na2 rfl
  refine Call_ (ld_blt I hg2 hm2 boot_set ?_)
  refine PyProof.Rows.callWith_type1 (PyProof.Rows.args_cons (thn (ha.run pins s σ H F m M env _ I w r h) fun v s1 ⟨x, H1, I1, r1, d, M1, F1, m1, ⟨xs, ks, h1, h2, hz, ⟨sc, hko⟩, q1⟩, e1, g1, rp⟩ => PyProof.Rows.args_nil ?_) na) na rfl
  refine set_call hc I1 r1 g1 rp h1 h2 hz fun h' tk n R I2 => PyProof.Rows.args_nil ?_
  obtain ⟨ob, es, ep, t, ho, hex, hd, gk, nd, hmem, hb, hf, hn, hr, hl⟩ := R
  have pm := set_perm (P := X.prog) (w := X.w) (h := h') (a := 0) (n := n) nd hmem
  refine Calls.call_function_entry kind_sorted plain_sorted entry_sorted (args_sorted1 _) ?_
  unfold Builtin.«sorted»
  refine wpAny_bind (m := checkCount "sorted" 1 1 _) (wpAny_pure ?_)
  refine wpAny_bind (collect_set (A := X.A.in1) (s := { s1 with heap := h', toks := tk }) (I.ok.hd hc) ⟨ob, ho, hex.1, hd⟩ hf hb hr hl fun s2 vs k1 hz2 gg oo pv => ?_)
  have I3 : Inv X pins σ H1 s2 := by
    have J : Inv X pins σ H1 { { s1 with heap := h', toks := tk } with heap := s2.heap, gens := s2.gens, drawn := s2.drawn, toks := s2.toks } := I2.call (ch := []) (Un.kept k1) (I2.hok.kept k1) (by rw [gg]; exact I2.bare) (fun _ z => nomatch z)
    have e : s2 = { { s1 with heap := h', toks := tk } with heap := s2.heap, gens := s2.gens, drawn := s2.drawn, toks := s2.toks } := by
      cases s2; cases s1; cases oo; rfl
    rw [e]; exact J
  have pl : (vs.map L3K.valKey).Perm (dedupK ks) := by
    have := pv.map L3K.valKey
    rw [List.map_map] at this
    exact this.trans pm
  have hk : ∀ v ∈ vs, ∃ k, keyIs k v = true := fun v hv => by
    obtain ⟨e, he, rfl⟩ := List.mem_map.mp (pv.mem_iff.mp hv)
    obtain ⟨k, h1, _⟩ := gk e he
    exact ⟨k, h1⟩
  have rv : Vals ((vs.map L3K.valKey).map kV) vs := by rw [List.map_map]; exact vals_keys hk
  have rp2 : Rps X.K F1 m1 H1 ((vs.map L3K.valKey).map kD) ((vs.map L3K.valKey).map kV) := rps_keys hko fun k z => pl.mem_iff.mp z
  have ee := each_of rp2 rv
  have pD : ((vs.map L3K.valKey).map kD).Perm ((dedupK ks).map kD) := pl.map kD
  have sc2 : sortC ((vs.map L3K.valKey).map kD) := by
    obtain ⟨c1, c2, c3, c4⟩ := sc
    have pP := pD.map D.toP
    refine ⟨?_, fun d hd d' hd' => c2 d (pP.mem_iff.mp hd) d' (pP.mem_iff.mp hd'), c3.imp (fun z d hd => z d (pP.mem_iff.mp hd)) (fun z d hd => z d (pP.mem_iff.mp hd)), fun d hd => c4 d (pD.mem_iff.mp hd)⟩
    rw [pus_all, List.all_eq_true]
    exact fun d hd => pus_mem c1 (pD.mem_iff.mp hd)
  have es2 : sortD ((vs.map L3K.valKey).map kD) = sortD ((dedupK ks).map kD) := sortD_perm pD fun a b ha hb e => by
    obtain ⟨k1, _, rfl⟩ := List.mem_map.mp ha
    obtain ⟨k2, _, rfl⟩ := List.mem_map.mp hb
    rw [kD_toks e]
  rw [← es2] at q1
  have hzl : vs.length ≤ sizeLine := by
    have h6 : vs.length = es.size := by rw [pv.length_eq, List.length_map, Array.length_toList]
    have h4 : es.size < 4096 := hb
    rw [h6, sizeLine_eq]
    exact Nat.le_of_lt (Nat.lt_trans h4 (by decide))
  have hA : X.A.in1.in1.units + 70 < cLine := by
    have : X.A.in1.in1.units ≤ X.A.units + 10 := by simp [Around.in1]
    omega
  refine wpAny_bind (wpAny_newList ?_ hzl)
  have hoL : (s2.heap.push (seqObj "list" vs.toArray 0)).get? s2.heap.objs.size = some (seqObj "list" vs.toArray 0) := Heap.get?_push_size _ rfl
  refine wpAny_bind (wpAny_holding (wpAny_call_entry slot_list_sort ⟨_, hoL, rfl⟩ entry_list_sort (wpAny_mono (sort_tail (o := o) I3 g1 ee sc2 hzl hA q1) (fun f s' hf => ?_) fun _ _ e => e) (args_list_sort _)))
  obtain ⟨rfl, hq⟩ := hf
  exact ⟨_, rfl, wpAny_pure ⟨_, rfl, ep_step hq (fin_step (pins := pins) (σ := σ) e1)⟩⟩
end
end L3
namespace L3
open PySem PySem.Spec PyProof.Rows L2
/-! ### repr -/
def repOk (d : D) : Prop := d.pu = true ∧ d.toP.showable = true ∧ d.toP.shown.length ≤ sizeLine ∧ dDep d ≤ 64
def oRepr : DSp := fun M ds P => ∃ a, ds = [a] ∧ repOk (vw M a) ∧ P (.str (vw M a).toP.shown) M
section
variable {X : Cx} {c : Ctx}
theorem op_repr (hu : X.A.units + 80 < cLine) (hg : X.A.guards = some []) : OpD X (fn1 "repr") oRepr := opD1 (fun pins s σ H F m M u x a P I r1 g p1 w1 q => by
  obtain ⟨a', e, ⟨h1, h2, h3, h4⟩, q⟩ := q
  obtain rfl := l1inj e
  have fin : ∀ h' u tk, (∀ b o, s.heap.get? b = some o → h'.get? b = some o) → EP X pins σ (Fin X.K F m H P) (.str (vw M a).toP.shown u) { s with heap := h', toks := tk } := fun h' u tk k =>
    ⟨.str (vw M a).toP.shown, H, I.kept (t' := tk) k, ⟨u, rfl⟩, Fin.now g q (by simp only [Rp]; exact ⟨trivial, h3⟩)⟩
  have fin0 : ∀ tk, EP X pins σ (Fin X.K F m H P) (.str (vw M a).toP.shown s.toks) { s with toks := tk } := fun tk => ⟨.str (vw M a).toP.shown, H, I.tok tk, ⟨_, rfl⟩, Fin.now g q (by simp only [Rp]; exact ⟨trivial, h3⟩)⟩
  obtain ⟨as, rd⟩ := Dp.reads I _ _ _ (RpW.dp w1 h1) r1
  have hd : (vw M a).toP.hasDict = false := toP_noDict _
  unfold dDep at h4
  have viaRef : ∀ {p : Addr}, u = .ref p → wpAny (model X.prog X.w) X.A (call (.builtin "repr") [u]) (EP X pins σ (Fin X.K F m H P)) X.xe s := fun {p} e => by
    subst e
    exact repr_of_reads' rd h2 (PyData.noDict_hsm hd) hg (by omega) (fun _ _ q => q) (fun h' u tk k => fin h' u tk k) h3
  revert w1 h1 h2 h3 fin fin0
  cases hv : vw M a <;> intro w1 h1 h2 h3 fin fin0
  · simp only [RpW, Rp] at w1; subst w1
    cases (show u = Value.none from r1)
    exact PySem.P.repr_of_none (fin0 _)
  · rename_i b
    simp only [RpW, Rp] at w1; subst w1
    cases (show u = Value.bool b from r1)
    exact PySem.P.repr_of_bool (fin0 _)
  · rename_i i
    simp only [RpW, Rp] at w1; subst w1
    obtain ⟨t, rfl⟩ := r1
    exact PySem.P.repr_of_int (by simpa [D.toP, PyData.showable] using h2) (fin0 _)
  · rename_i z
    simp only [RpW, Rp] at w1; obtain ⟨rfl, _⟩ := w1
    obtain ⟨t, rfl⟩ := r1
    exact PySem.P.repr_of_str (fin0 _) h3
  · simp only [RpW, Rp] at w1
    obtain ⟨p, ys, rfl, _⟩ := w1
    exact viaRef r1
  · obtain ⟨p, ys, rfl, _⟩ := w1
    exact viaRef r1
  · simp [D.pu] at h1
  · simp [D.pu] at h1
  · simp [D.pu] at h1)
  fun M ds P ⟨a, e, _⟩ => ⟨a, e⟩
end
end L3
namespace L3
open PySem PySem.Spec PyProof.Rows L2
/-! ### [e for a in x if t for b in y if u] -/
def lcGo2 (g : TDG) (tt : TDT) (ti1 : TDI) (g1 : TDG) (tt1 : TDT) (te : TD) (vs1 : List Nat) (chk : St3 → Prop) (env0 : Env3) (P : List D → St3 → Prop) : List D → List D → St3 → Prop
  | [], acc, M => chk M ∧ P acc M
  | x :: xs, acc, M => chk M ∧ g x env0 M fun env1 M1 => tt env1 M1 fun b M2 =>
    if b = true then ti1 env1 M2 fun items1 chk1 M3 => lcGo g1 tt1 te chk1 (wipe3 env1 vs1) (fun acc' M4 => lcGo2 g tt ti1 g1 tt1 te vs1 chk env0 P xs acc' M4) items1 acc M3 else lcGo2 g tt ti1 g1 tt1 te vs1 chk env0 P xs acc M2
def dLc2 (own : Bool) (ti : TDI) (g : TDG) (tt : TDT) (ti1 : TDI) (g1 : TDG) (tt1 : TDT) (te : TD) (vs vs1 : List Nat) : TD := fun env M P =>
  ti env M fun items chk M1 => lcGo2 g tt ti1 g1 tt1 te vs1 chk (wipe3 env vs) (fun acc M2 => mkLst own acc M2 P) items [] M1
section
variable {K : PySem.W.Frag}
/-- a list of one's own, that no one else reads -/
structure Own (K : PySem.W.Frag) (D0 : Addr) (F : Addr → Prop) (m : List Addr) (H : Hp) (M : St3) (acc : List D) : Prop where
  good : Good K F m H M
  nF : ¬ F D0
  nm : D0 ∉ m
  at_ : ∃ xs, H D0 = some (.lst xs) ∧ Rps K F m H acc xs
theorem Own.ext {D0 : Addr} {F F' : Addr → Prop} {m m' : List Addr} {H H' : Hp} {M M' : St3} {acc : List D} (o : Own K D0 F m H M acc) (e : Ext F m H F' m' H') (g : Good K F' m' H' M') : Own K D0 F' m' H' M' acc := by
  obtain ⟨xs, h1, h2⟩ := o.at_
  obtain ⟨k1, k2, k3⟩ := lc_frame (K := K) h1 o.nF o.nm e
  exact ⟨g, k2, k3, xs, k1, Rps.ext o.good e _ _ h2⟩
theorem Own.push {D0 : Addr} {F F1 : Addr → Prop} {m m1 : List Addr} {H H1 : Hp} {M : St3} {acc : List D} {d : D} {y : V} (o : Own K D0 F m H M acc) (hD : H1 D0 = none) (e : Ext F1 m1 H1 F m H) (r : Rp K F m H d y) :
    ∃ xs, H D0 = some (.lst xs) ∧ xs.length = acc.length ∧ Own K D0 F m (upd H D0 (.lst (xs ++ [y]))) M (acc ++ [d]) ∧ Ext F1 m1 H1 F m (upd H D0 (.lst (xs ++ [y]))) ∧ Stz F m H F m (upd H D0 (.lst (xs ++ [y]))) := by
  obtain ⟨xs, h1, h2⟩ := o.at_
  obtain ⟨g7, s7⟩ := o.good.own (o := .lst (xs ++ [y])) o.nF o.nm h1
  refine ⟨xs, h1, h2.length.symm, ⟨g7, o.nF, o.nm, _, upd_same, (Rps.stb s7 _ _ h2).append (Rps.one (Rp.stb s7 _ _ r))⟩, ⟨e.f, e.fn, e.m_, fun b o hb hnm => ?_, fun b hb => ?_, fun b o u hb => by rw [upd_ne (ne_of_none hb hD)]; exact e.z b o u hb⟩, s7, fun b o u hb => ?_⟩
  · rw [upd_ne (ne_of_none hb hD)]; exact e.k b o hb hnm
  · by_cases q : b = D0
    · subst q; rw [upd_same]; simp
    · rw [upd_ne q]; exact e.t b hb
  · rw [upd_ne (fun q : b = D0 => by rw [q, h1] at hb; cases hb)]; exact hb
theorem own_lst {D0 : Addr} {F F2 : Addr → Prop} {m m2 : List Addr} {H H2 : Hp} {M2 : St3} {acc : List D} {o : Bool} {P : KD} (w : Own K D0 F2 m2 H2 M2 acc) (hp : H D0 = none) (e : Ext F m H F2 m2 H2) (q : mkLst o acc M2 P) : Fin K F m H P (.ref D0) H2 := by
  obtain ⟨xs, h1, r⟩ := w.at_
  unfold mkLst at q
  cases o with
  | false =>
    rw [if_neg Bool.false_ne_true] at q
    obtain ⟨g4, s4⟩ := w.good.adoptF w.nm (.inl ⟨xs, .inl h1⟩)
    refine ⟨.lst acc, M2, _, m2, q, e.adoptF hp, g4, ?_⟩
    simp only [Rp]
    exact ⟨D0, xs, rfl, .inl ⟨.inr rfl, .inl h1⟩, Rps.stb s4 _ _ r⟩
  | true =>
    rw [if_pos rfl] at q
    have st : Stb F2 m2 H2 F2 (m2 ++ [D0]) H2 := ⟨fun _ _ h => h, fun _ _ _ h => h, fun _ h => ⟨h, fun _ z => z, fun _ z => z⟩, [D0], rfl⟩
    refine ⟨.obj M2.length, _, F2, m2 ++ [D0], q, e.adoptM hp, w.good.adoptM w.nF w.nm ⟨xs, h1, Rps.stb st _ _ r⟩, ?_⟩
    simp only [Rp]
    exact ⟨D0, by rw [← w.good.len]; simp, rfl⟩
end
section
variable {X : Cx} {c : Ctx} {elt tg iter tg1 iter1 : Expr} {ifs ifs1 : List Expr} {scope : Scope} {own : List (Str × Nat)} {pos : Pos} {ti ti1 : TDI} {g g1 : TDG} {tt tt1 : TDT} {te : TD} {ws ws1 vs1 : List Nat}
def LIw (K : PySem.W.Frag) (t : TDI) : TI := fun σ H R => ∃ c' : Ctx, LI K c' t σ H R
theorem pi_w {tg e : Expr} {t : TDI} (h : ∀ c', PDI X c' tg e t) : PI X tg e (LIw X.K t) := ⟨fun pins s σ H R I ⟨c', z⟩ => (h c').pi.run pins s σ H R I z⟩
theorem lc2_lift (ownB : Bool) (hws : ∀ i ∈ ws, i ∈ own.map (·.2)) (hws1 : ∀ i ∈ ws1, i ∈ vs1) (σ : L2.St) (H : Hp) (F : Addr → Prop) (m : List Addr) (M : St3) (env : Env3) (P : KD) (w : World X.K c F m M H) (r : Re X.K F m H env σ)
    (ht : dLc2 ownB ti g tt ti1 g1 tt1 te (own.map (·.2)) vs1 env M P) : tLc2 (LI X.K c ti) (LGw X.K ws g) (LTw X.K tt) (LIw X.K ti1) (LGw X.K ws1 g1) (LTw X.K tt1) (LEw X.K te) (own.map (·.2)) vs1 σ H (Fin X.K F m H P) := by
  refine ⟨F, m, M, env, _, w, r, ht, fun J H1 items chk M1 F1 m1 hgo e1 g1' ok D0 hD => ?_⟩
  have r1 := r.ext w.good e1
  have hF1 : ¬ F1 D0 := fun z => nin_none hD (g1'.fz D0 z)
  have hm1 : D0 ∉ m1 := fun z => nin_none hD (g1'.notIn z).2
  have hH : H D0 = none := by
    cases q : H D0 with
    | none => rfl
    | some o => exact absurd hD (e1.t D0 (by rw [q]; simp))
  let PF : List D → St3 → Prop := fun acc M2 => mkLst ownB acc M2 P
  let G2 := lcGo2 g tt ti1 g1 tt1 te vs1 chk (wipe3 env (own.map (·.2))) PF
  refine ⟨fun i n H' => n = items.length - i ∧ i ≤ items.length ∧ ∃ F' m' M' acc, Ext F1 m1 H1 F' m' H' ∧ Own X.K D0 F' m' H' M' acc ∧ Re X.K F' m' H' (wipe3 env (own.map (·.2))) (L2.wipe σ (own.map (·.2))) ∧ G2 (items.drop i) acc M',
    ⟨items.length, by simp, Nat.zero_le _, F1, m1, M1, [], Ext.laid hD, ⟨g1'.laid hD, hF1, hm1, [], upd_same, Rps.nil⟩, (r1.ext g1' (Ext.laid hD)).wipe _, by simpa using hgo⟩, ?_⟩
  rintro i n H2 ⟨rfl, hle, F2, m2, M2, acc, e2, o2, r2, hgo2⟩
  have g2 := o2.good
  by_cases hlt : i < items.length
  · obtain ⟨x, hx, hd⟩ := drop_get hlt
    rw [hd] at hgo2
    obtain ⟨hck, hg2⟩ := hgo2
    obtain ⟨hGo, hY⟩ := ok.item F2 m2 H2 M2 i x (e2.stz g1') g2 hck hx
    refine .inr ⟨hGo, fun H' => ∃ F' m' M' acc, Ext F1 m1 H1 F' m' H' ∧ Own X.K D0 F' m' H' M' acc ∧ Re X.K F' m' H' (wipe3 env (own.map (·.2))) (L2.wipe σ (own.map (·.2))) ∧ G2 (items.drop (i + 1)) acc M',
      fun H' z => ⟨items.length - (i + 1), by omega, rfl, by omega, z⟩, fun v H3 hy => ?_⟩
    obtain ⟨F3, e3, g3, rp3⟩ := hY v H3 hy
    have o3 := o2.ext e3 g3
    have r3 := r2.ext g2 e3
    refine ⟨⟨F3, m2, H3⟩, F3, m2, M2, _, x, _, ⟨Ext.refl _ _ _, g3⟩, r3, rp3, hg2, fun σ4 H4 F4 m4 M4 env4 hb4 e4 g4 r4 nw => ?_⟩
    refine ⟨wipe_back (nw.1.trans (wipe_length _ _)) hws nw.2, ⟨F4, m4, H4⟩, F4, m4, M4, env4, _, ⟨Ext.refl _ _ _, g4⟩, r4, hb4, fun b H5 M5 F5 m5 q5 e5 g5 => ?_⟩
    have e35 := e4.trans e5
    have o5 := o3.ext e35 g5
    have r5 := r3.ext g3 e35
    have e15 := (e2.trans e3).trans e35
    cases b with
    | false =>
      rw [if_neg Bool.false_ne_true] at q5
      exact iteF ⟨F5, m5, M5, acc, e15, o5, r5, q5⟩
    | true =>
      rw [if_pos rfl] at q5
      refine iteT ⟨⟨F5, m5, H5⟩, F5, m5, M5, env4, _, ⟨Ext.refl _ _ _, g5⟩, r4.ext g4 e5, q5, fun J1 H6 items1 chk1 M6 F6 m6 q6 e6 g6 ok1 => ?_⟩
      have o6 := o5.ext e6 g6
      have r6 := r5.ext g5 e6
      have e16 := e15.trans e6
      have rv6 : Re X.K F6 m6 H6 (wipe3 env4 vs1) (L2.wipe σ4 vs1) := ((r4.ext g4 e5).ext g5 e6).wipe _
      refine ⟨fun j n H' => n = items1.length - j ∧ j ≤ items1.length ∧ ∃ F' m' M' acc, Stz F6 m6 H6 F' m' H' ∧ Ext F1 m1 H1 F' m' H' ∧ Own X.K D0 F' m' H' M' acc ∧ Re X.K F' m' H' (wipe3 env (own.map (·.2))) (L2.wipe σ (own.map (·.2))) ∧
          lcGo g1 tt1 te chk1 (wipe3 env4 vs1) (fun acc' M4 => G2 (items.drop (i + 1)) acc' M4) (items1.drop j) acc M',
        ⟨items1.length, by simp, Nat.zero_le _, F6, m6, M6, acc, (Ext.refl _ _ _).stz g6, e16, o6, r6, by simpa using q6⟩, ?_⟩
      rintro j n H7 ⟨rfl, hle1, F7, m7, M7, acc7, s7, e17, o7, r7, hgo7⟩
      have g7 := o7.good
      by_cases hlt1 : j < items1.length
      · obtain ⟨x1, hx1, hd1⟩ := drop_get hlt1
        rw [hd1] at hgo7
        obtain ⟨hck1, hg7⟩ := hgo7
        obtain ⟨hGo1, hY1⟩ := ok1.item F7 m7 H7 M7 j x1 s7 g7 hck1 hx1
        refine .inr ⟨hGo1, fun H' => ∃ F' m' M' acc, Stz F6 m6 H6 F' m' H' ∧ Ext F1 m1 H1 F' m' H' ∧ Own X.K D0 F' m' H' M' acc ∧ Re X.K F' m' H' (wipe3 env (own.map (·.2))) (L2.wipe σ (own.map (·.2))) ∧
            lcGo g1 tt1 te chk1 (wipe3 env4 vs1) (fun acc' M4 => G2 (items.drop (i + 1)) acc' M4) (items1.drop (j + 1)) acc M',
          fun H' z => ⟨items1.length - (j + 1), by omega, rfl, by omega, z⟩, fun v1 H8 hy1 => ?_⟩
        obtain ⟨F8, e8, g8, rp8⟩ := hY1 v1 H8 hy1
        have o8 := o7.ext e8 g8
        have s8 := s7.trans (e8.stz g7)
        have rv8 : Re X.K F8 m7 H8 (wipe3 env4 vs1) (L2.wipe σ4 vs1) := rv6.stb s8.toStb
        refine ⟨⟨F8, m7, H8⟩, F8, m7, M7, _, x1, _, ⟨Ext.refl _ _ _, g8⟩, rv8, rp8, hg7, fun σ9 H9 F9 m9 M9 env9 hb9 e9 g9 r9 nw9 => ?_⟩
        refine ⟨wipe_back (nw9.1.trans (wipe_length _ _)) hws1 nw9.2, ⟨F9, m9, H9⟩, F9, m9, M9, env9, _, ⟨Ext.refl _ _ _, g9⟩, r9, hb9, fun b H10 M10 F10 m10 q10 e10 g10 => ?_⟩
        have e810 := e9.trans e10
        have o10 := o8.ext e810 g10
        have s10 := s8.trans (e810.stz g8)
        have r10 := (r7.ext g7 e8).ext g8 e810
        have e110 := (e17.trans e8).trans e810
        cases b with
        | false =>
          rw [if_neg Bool.false_ne_true] at q10
          exact iteF ⟨F10, m10, M10, acc7, s10, e110, o10, r10, q10⟩
        | true =>
          rw [if_pos rfl] at q10
          refine iteT ⟨⟨F10, m10, H10⟩, F10, m10, M10, env9, _, ⟨Ext.refl _ _ _, g10⟩, r9.ext g9 e10, q10, fun y H11 ⟨d11, M11, F11, m11, ⟨hz, q11⟩, e11, g11, rp11⟩ => ?_⟩
          have o11 := o10.ext e11 g11
          obtain ⟨xs, hX, hl, o12, e12, s12⟩ := o11.push hD (e110.trans e11) rp11
          exact ⟨xs, hX, by rw [hl]; exact hz, F11, m11, M11, acc7 ++ [d11], (s10.trans (e11.stz g10)).trans s12, e12, o12, (r10.ext g10 e11).stb s12.toStb, q11⟩
      · have hj : j = items1.length := by omega
        subst hj
        rw [List.drop_length] at hgo7
        obtain ⟨hck1, hP1⟩ := hgo7
        exact .inl ⟨ok1.done F7 m7 H7 M7 s7 g7 hck1, F7, m7, M7, acc7, e17, o7, r7, hP1⟩
  · have hi : i = items.length := by omega
    subst hi
    rw [List.drop_length] at hgo2
    obtain ⟨hck, hP⟩ := hgo2
    exact .inl ⟨ok.done F2 m2 H2 M2 (e2.stz g1') g2 hck, own_lst o2 hH (e1.trans e2) hP⟩
theorem pd_lc2 (ownB : Bool) (hc : X.calm = true) (hN : X.N.Nodup) (hi : PDI X c tg iter ti) (ok : BlkOk X.N X.env.scope scope own) (hv : ∀ i ∈ vs1, i ∈ own.map (·.2)) (hws : ∀ i ∈ ws, i ∈ own.map (·.2)) (hws1 : ∀ i ∈ ws1, i ∈ vs1)
    (hg : ∀ (c' : Ctx) (s : Shared) (H : Hp) (C : Addr) (cl : List (Str × Addr)) (fp : List Addr), PDG (X.blk s H scope (compEnvC scope cl C X.env) fp) c' tg ws g) (ht : ∀ (c' : Ctx) (s : Shared) (H : Hp) (C : Addr) (cl : List (Str × Addr)) (fp : List Addr), PDTs (X.blk s H scope (compEnvC scope cl C X.env) fp) c' ifs tt)
    (hi1 : ∀ (c' : Ctx) (s : Shared) (H : Hp) (C : Addr) (cl : List (Str × Addr)) (fp : List Addr), PDI (X.blk s H scope (compEnvC scope cl C X.env) fp) c' tg1 iter1 ti1)
    (hg1 : ∀ (c' : Ctx) (s : Shared) (H : Hp) (C : Addr) (cl : List (Str × Addr)) (fp : List Addr), PDG (X.blk s H scope (compEnvC scope cl C X.env) fp) c' tg1 ws1 g1) (ht1 : ∀ (c' : Ctx) (s : Shared) (H : Hp) (C : Addr) (cl : List (Str × Addr)) (fp : List Addr), PDTs (X.blk s H scope (compEnvC scope cl C X.env) fp) c' ifs1 tt1)
    (he : ∀ (c' : Ctx) (s : Shared) (H : Hp) (C : Addr) (cl : List (Str × Addr)) (fp : List Addr), PD (X.blk s H scope (compEnvC scope cl C X.env) fp) c' elt te) (hs : ∀ x, foldedSetIterable iter X.env x = pure x) (hs1 : ∀ env x, foldedSetIterable iter1 env x = pure x) :
    PD X c (.ListComp elt [⟨tg, iter, ifs, 0⟩, ⟨tg1, iter1, ifs1, 0⟩] scope pos) (dLc2 ownB ti g tt ti1 g1 tt1 te (own.map (·.2)) vs1) :=
  PD.of (pe_lc2 (wi := LI X.K c ti) (g := LGw X.K ws g) (tt := LTw X.K tt) (wi1 := LIw X.K ti1) (g1 := LGw X.K ws1 g1) (tt1 := LTw X.K tt1) (te := LEw X.K te) hc hN hi.pi ok hv (fun s H C cl fp => PDG.pgw fun c' => hg c' s H C cl fp) (fun s H C cl fp => pts_w fun c' => ht c' s H C cl fp)
    (fun s H C cl fp => pi_w fun c' => hi1 c' s H C cl fp) (fun s H C cl fp => PDG.pgw fun c' => hg1 c' s H C cl fp) (fun s H C cl fp => pts_w fun c' => ht1 c' s H C cl fp) (fun s H C cl fp => pe_w fun c' => he c' s H C cl fp) hs hs1)
    fun σ H F m M env P w r q => lc2_lift ownB hws hws1 σ H F m M env P w r q
end
end L3
namespace L3
open PySem PySem.Spec PyProof.Rows L2
/-! ### the rules in short: what is seen of the text is filled in by itself -/
structure Rm (X : Cx) : Prop where
  hu : X.A.units + 200 < cLine
  calm : X.calm = true
  hg : X.A.guards = some []
  nd : X.N.Nodup
  hp : ∀ env, PassesOwn (model X.prog X.w) X.A env X.xe
theorem Rm.blk {X : Cx} (r : Rm X) {s : Shared} {H : Hp} {scope : Scope} {cenv : Env} {fp : List Addr} : Rm (X.blk s H scope cenv fp) := ⟨r.hu, r.calm, r.hg, r.nd, fun _ => PassesOwn.never⟩
def visB (sc : Scope) (x : Str) : Bool := match sc.names.lookup x with | some .local => true | some .cell => true | some .free => true | _ => false
theorem vis_of {sc : Scope} {x : Str} (h : visB sc x = true) : Vis sc x := by
  unfold visB at h
  unfold Vis
  split at h <;> simp_all
def locB (sc : Scope) (x : Str) : Bool := match sc.names.lookup x with | some .local => true | some .cell => true | _ => false
theorem loc_of {sc : Scope} {x : Str} (h : locB sc x = true) : L2.Loc sc x := by
  unfold locB at h
  unfold L2.Loc
  split at h <;> simp_all
abbrev ND (x : Str) : Prop := (x == ("__debug__" : Str)) = false
/-- no starred part -/
def nst : Expr → Bool | .Starred .. => false | _ => true
theorem se_of {env : Env} {e : Expr} {es : List Expr} (h : nst e = true) : starEach (e :: es) env = (false, eval e env) :: starEach es env := by
  cases e <;> first | rfl | exact absurd h Bool.false_ne_true
abbrev SE (X : Cx) (e : Expr) (es : List Expr) : Prop := starEach (e :: es) X.env = (false, eval e X.env) :: starEach es X.env
abbrev NP (X : Cx) (pos : Pos) (es : List Expr) : Prop := (backTo pos (starEach es X.env)).any (·.1) = false
section
variable {X : Cx} {c : Ctx} {pos p : Pos} {x : Str} {e : Expr} {es : List Expr} {t : TDA} {dl : DSp}
theorem q_var (i : Nat) (hN : X.N[i]? = some x := by rfl) (hv : visB X.env.scope x = true := by rfl) (hd : ND x := by decide) (hcd : (x == ("__classdict__" : Str)) = false := by decide) : PD X c (.Name x pos) (dVar i) := pd_var hN (vis_of hv) hd hcd
/-- a builtin type as a value -/
theorem q_ty (T : String) (hm : X.mg x = none) (hg : Gl X x := by rfl) (hv : bootBuiltins x = some (.type T) := by rfl) (hn : x ≠ "__name__" := by decide) (hdb : ND x := by decide) : PD X c (.Name x pos) (dC (.raw (.ty T))) :=
  ⟨fun pins s σ H F m M env P I w re q => ld_blt I hg hm hv ⟨.ty T, H, I, rfl, Fin.now w.good q (by simp [Rp])⟩ hn hdb⟩
theorem q_gint {i : Int} {k : Tok} (hm : X.mg x = some (.int i k)) (hg : Gl X x := by rfl) (hdb : ND x := by decide) : PD X c (.Name x pos) (dC (.int i)) := pd_glob hg hm (v := .int i) ⟨k, rfl⟩ (fun _ _ _ => by simp [Rp]) hdb
theorem q_gstr {z : Str} {k : Tok} (hm : X.mg x = some (.str z k)) (hz : z.length ≤ sizeLine := by decide) (hg : Gl X x := by rfl) (hdb : ND x := by decide) : PD X c (.Name x pos) (dC (.str z)) := pd_glob hg hm (v := .str z) ⟨k, rfl⟩ (fun _ _ _ => by simp [Rp, hz]) hdb
theorem q_cons {te : TD} {tr : TDA} (ha : PD X c e te) (hr : PDA X c es tr) (hs : SE X e es := by exact se_of rfl) : PDA X c (e :: es) (dCons te tr) := pda_cons ha hr hs
/-- a builtin function, a builtin type, called -/
theorem q_f {id : String} (ho : OpD X (fn1 id) dl) (ha : PDA X c (e :: es) t) (hm : X.mg x = none) (hg : Gl X x := by rfl) (hv : bootBuiltins x = some (.builtin id) := by rfl) (hn : x ≠ "__name__" := by decide) (hdb : ND x := by decide) (he : SE X e es := by exact se_of rfl) (hpl : NP X pos es := by rfl) :
    PD X c (.Call (.Name x p) (e :: es) [] pos) (dBlt dl t) := pd_blt ho hg hm hv ha hn hdb he hpl
theorem q_T {T : String} (ho : OpD X (ty1 T) dl) (ha : PDA X c (e :: es) t) (hm : X.mg x = none) (hg : Gl X x := by rfl) (hv : bootBuiltins x = some (.type T) := by rfl) (hn : x ≠ "__name__" := by decide) (hdb : ND x := by decide) (he : SE X e es := by exact se_of rfl) (hpl : NP X pos es := by rfl) :
    PD X c (.Call (.Name x p) (e :: es) [] pos) (dBlt dl t) := pd_bty ho hg hm hv ha hn hdb he hpl
/-- methods -/
theorem q_m0 {T id : String} {o : Expr} {name : Str} {apos : Pos} {to : TD} (hm : OpD X (fun us => call (.builtin id) us) dl) (pa : PlainAttrs T) (slot : Slot T name id) (hty : typeOf (.builtin id) = pure (.type "method_descriptor")) (ho : PD X c o to) (hT : T ≠ "" := by decide)
    (hbase : attributeBase o name X.env (eval o X.env) = eval o X.env := by rfl) (hline : (apos.endLine == pos.line) = true := by rfl) : PD X c (.Call (.Attribute o name apos) [] [] pos) (dMeth T dl to dNil) := pd_m0 hm pa slot hty ho hT hbase hline
theorem q_m {T id : String} {o : Expr} {name : Str} {apos : Pos} {to : TD} (hm : OpD X (fun us => call (.builtin id) us) dl) (pa : PlainAttrs T) (slot : Slot T name id) (hty : typeOf (.builtin id) = pure (.type "method_descriptor")) (ho : PD X c o to) (ha : PDA X c (e :: es) t) (hT : T ≠ "" := by decide)
    (hbase : attributeBase o name X.env (eval o X.env) = eval o X.env := by rfl) (hfew : ((backTo pos (starEach (e :: es) X.env)).all (fun x => !x.1) && (backToKw pos (keywordEach [] X.env)).all (fun x => x.1.isSome) && decide ((e :: es).length + ([] : List Keyword).length + (if ([] : List Keyword).isEmpty then 0 else 1) < 30)) = true := by rfl)
    (hline : (apos.endLine == pos.line) = true := by rfl) (hs : SE X e es := by exact se_of rfl) (hplain : NP X pos es := by rfl) : PD X c (.Call (.Attribute o name apos) (e :: es) [] pos) (dMeth T dl to t) := pd_m hm pa slot hty ho ha hT hbase hfew hline hs hplain
/-- operators -/
theorem q_cmp {op : CmpOp} {a b : Expr} {ta tb : TD} (ho : OpD X (cmp op) dl) (ha : PD X c a ta) (hb : PD X c b tb) (hm : behindInMarks op b = false := by first | rfl | with_unfolding_all rfl) : PD X c (.Compare a [op] [b] pos) (dOp2 dl ta tb) := pd_cmp ho ha hb hm
theorem q_tcmp {op : CmpOp} {a b : Expr} {ta tb : TD} (ho : OpD X (cmp op) dl) (ha : PD X c a ta) (hb : PD X c b tb) (hm : behindInMarks op b = false := by first | rfl | with_unfolding_all rfl) : PDT X c (.Compare a [op] [b] pos) (dTru (dOp2 dl ta tb)) := pdt_cmp ho ha hb hm
theorem q_chain {a b k : Expr} {ta tb tk : TD} {op op' : CmpOp} {d1 d2 : DSp} (ho : OpD X (cmp op) d1) (ho' : OpD X (cmp op') d2) (ha : PD X c a ta) (hb : PD X c b tb) (he : PD X c k tk) (hm : lastMarks [op, op'] [b, k] = false := by first | rfl | with_unfolding_all rfl) :
    PD X c (.Compare a [op, op'] [b, k] pos) (dChain d1 d2 ta tb tk) := pd_chain ho ho' ha hb he hm
theorem q_tchain {a b k : Expr} {ta tb tk : TD} {op op' : CmpOp} {d1 d2 : DSp} (ho : OpD X (cmp op) d1) (ho' : OpD X (cmp op') d2) (ha : PD X c a ta) (hb : PD X c b tb) (he : PD X c k tk) (hm : lastMarks [op, op'] [b, k] = false := by first | rfl | with_unfolding_all rfl) :
    PDT X c (.Compare a [op, op'] [b, k] pos) (dTru (dChain d1 d2 ta tb tk)) := pdt_chain ho ho' ha hb he hm
theorem q_tru {te : TD} (h : PD X c e te) (he : ∀ whole, isTrue e X.env whole = (do let v ← whole; standAt e.pos; holding [v] (truthy v)) := by intro _; rfl) : PDT X c e (dTru te) := pdt_tru h he
theorem q_ix {a b : Expr} {ta tb : TD} (r : Rm X) (ha : PD X c a ta) (hb : PD X c b tb) (hs : PlainIx b := by intro _ _; with_unfolding_all rfl) : PD X c (.Subscript a b pos) (dOp2 oIx ta tb) := pd_ix (ixD X (by have := r.hu; omega)) ha hb hs
theorem q_disp {o : Bool} {keys : List (Option Expr)} {values : List Expr} {trs : List (TD × TD)} (h : PDPs X c pos keys values trs) (hall : keys.all (·.isSome) = true := by rfl) (hl : keys.length = values.length := by rfl) (h0 : keys ≠ [] := by simp) (h15 : keys.length ≤ 15 := by decide) : PD X c (.Dict keys values pos) (dDisp o trs) := pd_disp h hall hl h0 h15
end
/-! ### defs of the text -/
/-- a def that keeps a promise, told by data, with k calls in one another at most -/
structure FS (P : Program) (w : PySem.World) (K : PySem.W.Frag) (mg : Str → Option Value) (base : Heap) (k : Nat) (x : Str) (st : Stmt) (ps : List Str) (dl : DSp) : Prop where
  ex : ∃ f fd, L2.Fun K x x st f fd ∧ FnG P w K mg base CX0 k f fd ps (spD K dl ps.length) ∧ Binds K fd ps [] ∧ mg x = some (.ref f)
abbrev BindsF (x : Str) (st : Stmt) (ps : List Str) : Prop := ∀ (kV doc pm : Value) (an : Option Addr) (cdv ct : Value) (us : List Value), us.length = ps.length → bindArgs (PySem.W.fnOf x x (defArgs st) (defBody st) (defScope st) .none kV doc pm an cdv ct) ⟨us, []⟩ = pure (ps.zip us)
abbrev BindsK (x : Str) (st : Stmt) (ps ks : List Str) (perm : List Nat) : Prop := ∀ (kV doc pm : Value) (an : Option Addr) (cdv ct : Value) (us ws : List Value), us.length + ws.length = ps.length → ws.length = ks.length →
  bindArgs (PySem.W.fnOf x x (defArgs st) (defBody st) (defScope st) .none kV doc pm an cdv ct) ⟨us, ks.zip ws⟩ = pure (ps.zip (pickL .none perm (us ++ ws)))
theorem kwB_of {K : PySem.W.Frag} {x : Str} {st : Stmt} {f : Addr} {fd : FuncData} {ps ks : List Str} {perm : List Nat} (F : L2.Fun K x x st f fd) (h : BindsK x st ps ks perm) (hl : perm.length = ps.length) : KwB K fd ps ks perm := by
  obtain ⟨oc, od, kV, doc, pm, an, cdv, ct, osl, rfl, lk, hcd⟩ := F.ex
  exact ⟨fun s us ws _ h1 h2 => .of_eq (h kV doc pm an cdv ct us ws h1 h2), hl⟩
/-- a def keeps its promise: its body's reading does -/
theorem fs_mk {P : Program} {w : PySem.World} {K : PySem.W.Frag} {mg : Str → Option Value} {base : Heap} {k : Nat} {x : Str} {st : Stmt} {N ps : List Str} {dl : DSp} {f : Addr} {fd : FuncData} {td : TDS} (F : L2.Fun K x x st f fd) (hmg : mg x = some (.ref f)) (hb : BindsF x st ps) (S : FnScope N ps (defScope st))
    (rd : ∀ (cdv : Value) (A : Around) (outer : List Env) (s : Shared) (H : Hp) (E : XK) (c : Ctx), Room k (A.deeper (envOfC x (defScope st) s.heap.objs.size f cdv)) → Rm (cxOf CX0 P w K mg base N x (defScope st) f cdv A outer s H E).nox → PDSs (cxOf CX0 P w K mg base N x (defScope st) f cdv A outer s H E).nox c (defBody st) td)
    (law : ∀ M ds Q, ds.length = ps.length → dl M ds Q → td { nx := fun _ M' => Q .non M', rt := Q } (ds.map some ++ List.replicate (N.length - ps.length) none) M) : FS P w K mg base (k + 1) x st ps dl := by
  refine ⟨f, fd, F, ?_, F.binds hb, hmg⟩
  obtain ⟨oc, od, kV, doc, pm, an, cdv, ct, osl, rfl, lk, hcd⟩ := F.ex
  refine fnG_of lk hcd S (fun vs H Q E h => h.1) fun A outer s H vs Q E hr hG h => ?_
  obtain ⟨hl, F0, m, M, ds, P0, g, rp, q, hq⟩ := h
  have rm : Rm (cxOf CX0 P w K mg base N x (defScope st) f cdv A outer s H E).nox := ⟨by have := hr.un; show (A.deeper _).units + 200 < cLine; omega, rfl, hG, S.nd, fun _ => PassesOwn.never⟩
  have hR := rd cdv A outer s H E ⟨F0, m, H⟩ hr rm
  refine ⟨_, hR.pss.nox, F0, m, M, _, _, ⟨Ext.refl _ _ _, g⟩, ?_, law M ds P0 (by rw [rp.length]; exact hl) q, ?_, ?_, fun _ _ z => ?_, fun _ _ z => ?_⟩
  · refine ⟨by simp [L2.start, rp.length, hl], fun i d hd => ?_⟩
    have hi : i < ds.length := by
      rcases Nat.lt_or_ge i ds.length with h | h
      · exact h
      · rw [List.getElem?_append_right (by simpa using h)] at hd
        have := List.mem_of_getElem? hd
        rw [List.mem_replicate] at this
        cases this.2
    rw [List.getElem?_append_left (by simpa using hi), List.getElem?_map] at hd
    cases e : ds[i]? with
    | none => rw [e] at hd; cases hd
    | some d' =>
      rw [e] at hd; cases hd
      obtain ⟨v, hv, rv⟩ := rp.get e
      refine ⟨v, ?_, rv⟩
      unfold L2.start
      rw [List.getElem?_append_left (by rw [List.length_map, ← rp.length]; exact hi), List.getElem?_map, hv]; rfl
  · rintro σ' H' ⟨F', m', M', env', w', r', q'⟩
    exact hq _ _ ⟨.non, M', F', m', q', w'.ext, w'.good, by simp [Rp]⟩
  · rintro v H' ⟨d, F', m', M', w', rp', q'⟩
    exact hq _ _ ⟨d, M', F', m', q', w'.ext, w'.good, rp'⟩
  · obtain ⟨_, _, _, _, _, _, z⟩ := z; exact z
  · obtain ⟨_, _, _, _, _, _, z⟩ := z; exact z
section
variable {X : Cx} {c : Ctx} {j k : Nat} {x : Str} {st : Stmt} {ps ks : List Str} {dl : DSp} {pos p : Pos} {e : Expr} {es : List Expr} {t tk : TDA} {kws : List Keyword}
theorem q_call {n : Nat} (G : FS X.prog X.w X.K X.mg X.base j x st ps dl) (hr : Room k X.A) (r : Rm X) (ha : PDA X c (e :: es) t) (hj : j ≤ k := by decide) (hn : ps.length = n := by rfl) (hg : Gl X x := by rfl) (hdb : ND x := by decide) (he : SE X e es := by exact se_of rfl) (hpl : NP X pos es := by rfl) :
    PD X c (.Call (.Name x p) (e :: es) [] pos) (dCall n dl t) := by
  subst hn
  obtain ⟨f, fd, F, G, hb, hm⟩ := G.ex
  exact pd_call G (hr.mono hj) r.hg hg hm F.kp hb rfl ha hdb he hpl
theorem q_call0 (G : FS X.prog X.w X.K X.mg X.base j x st [] dl) (hr : Room k X.A) (r : Rm X) (hj : j ≤ k := by decide) (hg : Gl X x := by rfl) (hdb : ND x := by decide) : PD X c (.Call (.Name x p) [] [] pos) (dCall 0 dl dNil) := by
  obtain ⟨f, fd, F, G, hb, hm⟩ := G.ex
  exact pd_call0 G (hr.mono hj) r.hg hg hm F.kp hb rfl hdb
theorem q_kcons {te : TD} {nm : Option Str} {kpos : Pos} (ha : PD X c e te) (hr : PDK X c kws t) : PDK X c (⟨nm, e, kpos⟩ :: kws) (dCons te t) := pdk_cons ha hr
theorem q_callK {n nk : Nat} (perm : List Nat) (G : FS X.prog X.w X.K X.mg X.base j x st ps dl) (hr : Room k X.A) (r : Rm X) (hB : BindsK x st ps ks perm) (ha : PDA X c (e :: es) t) (hkw : PDK X c kws tk) (hl : perm.length = ps.length := by rfl) (hks : (backToKw pos (keywordEach kws X.env)).filterMap (·.1) = ks := by rfl) (hall : (backToKw pos (keywordEach kws X.env)).all (·.1.isSome) = true := by rfl)
    (hj : j ≤ k := by decide) (hn : ps.length = n := by rfl) (hnk : ks.length = nk := by rfl) (hg : Gl X x := by rfl) (hdb : ND x := by decide) (he : SE X e es := by exact se_of rfl) (hpl : ((backTo pos (starEach (e :: es) X.env)).any (·.1) || (backToKw pos (keywordEach kws X.env)).any (·.1.isNone)) = false := by rfl) : PD X c (.Call (.Name x p) (e :: es) kws pos) (dCallK n nk perm dl t tk) := by
  subst hn hnk
  obtain ⟨f, fd, F, G, hb, hm⟩ := G.ex
  first
    | exact pd_callK G (hr.mono hj) r.hg hg hm F.kp (kwB_of F hB hl) rfl ha hkw hall hks hdb he hpl
    | exact pd_callK G (hr.mono hj) r.hg hg hm F.kp (kwB_of F hB hl) rfl ha hkw hall hks hdb he hpl (by assumption)
theorem q_callK0 {n nk : Nat} (perm : List Nat) (G : FS X.prog X.w X.K X.mg X.base j x st ps dl) (hr : Room k X.A) (r : Rm X) (hB : BindsK x st ps ks perm) (hkw : PDK X c kws tk) (hl : perm.length = ps.length := by rfl) (hks : (backToKw pos (keywordEach kws X.env)).filterMap (·.1) = ks := by rfl) (hall : (backToKw pos (keywordEach kws X.env)).all (·.1.isSome) = true := by rfl)
    (hj : j ≤ k := by decide) (hn : ps.length = n := by rfl) (hnk : ks.length = nk := by rfl) (hg : Gl X x := by rfl) (hdb : ND x := by decide) (hpl : ((backTo pos (starEach [] X.env)).any (·.1) || (backToKw pos (keywordEach kws X.env)).any (·.1.isNone)) = false := by rfl) : PD X c (.Call (.Name x p) [] kws pos) (dCallK n nk perm dl dNil tk) := by
  subst hn hnk
  obtain ⟨f, fd, F, G, hb, hm⟩ := G.ex
  exact pd_callK0 G (hr.mono hj) r.hg hg hm F.kp (kwB_of F hB hl) rfl hkw hall hks hdb hpl
/-! statements -/
variable {te : TD} {tg : Expr} {g : TDG} {ws : List Nat} {pos' : Pos} {body : List Stmt} {tb : TDS} {iter : Expr} {ti : TDI}
theorem q_name (r : Rm X) (i : Nat) (hi : X.N[i]? = some x := by rfl) (hx : locB X.env.scope x = true := by rfl) (hf : X.fn x = true ∨ X.env.scope.names.lookup x = some .local := by first | exact .inl rfl | exact .inr rfl) : PDG X c (.Name x pos) [i] (gtName i) := pdg_name r.nd hi (loc_of hx) hf
theorem q_gcons {e1 : Expr} {es1 : List Expr} {ws1 ws2 : List Nat} {t1 : TDG} {u1 : TDGs} (h1 : PDG X c e1 ws1 t1) (h2 : PDGs X c es1 ws2 u1) (hs : (assignEach (e1 :: es1) X.env).map (·.2) = assign e1 X.env :: (assignEach es1 X.env).map (·.2) := by rfl) : PDGs X c (e1 :: es1) (ws1 ++ ws2) (gtCons t1 u1) := pdgs_cons h1 h2 hs
theorem q_gtup {k : Nat} {t1 : TDGs} (r : Rm X) (n : Nat) (h : PDGs X c es ws t1) (hn : (assignEach es X.env).length = n := by rfl) (hst : (assignEach es X.env).findIdx? (·.1) = none := by rfl) : PDG X c (.Tuple es k pos) ws (gtTup n t1) := pdg_tup r.calm h hn hst
theorem q_asg (he : PD X c e te) (hg : PDG X c tg ws g) (hs : swapsWithSole [tg] e pos.line X.env = pure false := by rfl) (hw : swappedStores [tg] e X.env = pure none := by rfl) (h1 : (assignEach [tg] X.env).map (·.2) = [assign tg X.env] := by rfl) : PDS X c (.Assign [tg] e pos) (sAsg te g) := pds_asg he hg hs hw h1
theorem q_set (r : Rm X) (i : Nat) (he : PD X c e te) (hi : X.N[i]? = some x := by rfl) (hx : locB X.env.scope x = true := by rfl) (hs : swapsWith e (some (.Name x pos')) pos.line X.env = pure false := by rfl) (hf : X.fn x = true ∨ X.env.scope.names.lookup x = some .local := by first | exact .inl rfl | exact .inr rfl) :
    PDS X c (.Assign [.Name x pos'] e pos) (sAsg te (gtName i)) := pds_set r.nd hi (loc_of hx) he hs hf
theorem q_put {o i value : Expr} {to ti tv : TD} (r : Rm X) (ho : PD X c o to) (hi : PD X c i ti) (hv : PD X c value tv) (hs : swapsWith value (some (.Subscript o i pos')) pos.line X.env = pure false := by rfl) : PDS X c (.Assign [.Subscript o i pos'] value pos) (sPut to ti tv) := pds_put (by have := r.hu; omega) ho hi hv hs
theorem q_expr (h : PD X c e te) (hs : swapsWith e none pos.line X.env = pure false := by rfl) : PDS X c (.Expr e pos) (sDrop te) := pds_expr h hs
theorem q_for (r : Rm X) (hi : PDI X c tg iter ti) (hg : ∀ c', PDG X c' tg ws g) (hb : ∀ c', PDSs X c' body tb) (hs : ∀ x, foldedSetIterable iter X.env x = pure x := by intro _; rfl) : PDS X c (.For tg iter body [] pos) (sFor ti g tb) := pds_for (r.hp _) r.calm hi hg hb hs
theorem q_while {tst : Expr} {tc : TDT} (r : Rm X) (hc : ∀ c', PDT X c' tst tc) (hb : ∀ c', PDSs X c' body tb) : PDS X c (.While tst body [] pos) (sWhile tc tb) := pds_while (r.hp _) hc hb
theorem q_range1 {a : Expr} (ha : PDA X c [a] t) (hm : X.mg "range" = none) (hg : Gl X "range" := by rfl) (hs : starEach [a] X.env = [(false, eval a X.env)] := by rfl) : PDI X c tg (.Call (.Name "range" p) [a] [] pos) (dRange1 t) := pdi_range1 hg hm ha hs
theorem q_range2 {a b : Expr} (ha : PDA X c [a, b] t) (hm : X.mg "range" = none) (hg : Gl X "range" := by rfl) (hs : starEach [a, b] X.env = [(false, eval a X.env), (false, eval b X.env)] := by rfl) (hs2 : starEach [b] X.env = [(false, eval b X.env)] := by rfl) : PDI X c tg (.Call (.Name "range" p) [a, b] [] pos) (dRange2 t) := pdi_range2 hg hm ha hs hs2
theorem q_enum {elts : List Expr} {kk : Nat} {tpos : Pos} {a : Expr} (ha : PDA X c [a] t) (hm : X.mg "enumerate" = none) (hg : Gl X "enumerate" := by rfl) (hs : starEach [a] X.env = [(false, eval a X.env)] := by rfl) : PDI X c (.Tuple elts kk tpos) (.Call (.Name "enumerate" p) [a] [] pos) (dEnum t) := pdi_enum hg hm ha hs
theorem q_zip {elts : List Expr} {kk : Nat} {tpos : Pos} {a b : Expr} (ha : PDA X c [a, b] t) (hm : X.mg "zip" = none) (hg : Gl X "zip" := by rfl) (hs : starEach [a, b] X.env = (false, eval a X.env) :: starEach [b] X.env := by rfl) (hpl : NP X pos [b] := by rfl) : PDI X c (.Tuple elts kk tpos) (.Call (.Name "zip" p) [a, b] [] pos) (dZip t) := pdi_zip hg hm ha hs hpl
theorem q_items {elts : List Expr} {kk : Nat} {tpos apos : Pos} {a : Expr} (ha : PD X c a te) (hbase : attributeBase a "items" X.env (eval a X.env) = eval a X.env := by rfl) (hline : (apos.endLine == pos.line) = true := by rfl) : PDI X c (.Tuple elts kk tpos) (.Call (.Attribute a "items" apos) [] [] pos) (dItems te) := pdi_items ha hbase hline
abbrev Blk {α : Type} (X : Cx) (scope : Scope) (Pr : Cx → Ctx → α → Prop) (a : α) : Prop := ∀ (c' : Ctx) (s : Shared) (H : Hp) (C : Addr) (cl : List (Str × Addr)) (fp : List Addr), Pr (X.blk s H scope (compEnvC scope cl C X.env) fp) c' a
theorem q_lc {elt : Expr} {ifs : List Expr} {scope : Scope} {tt : TDT} (o : Bool) (r : Rm X) (own : List (Str × Nat)) (hi : PDI X c tg iter ti) (hg : ∀ (c' : Ctx) (s : Shared) (H : Hp) (C : Addr) (cl : List (Str × Addr)) (fp : List Addr), PDG (X.blk s H scope (compEnvC scope cl C X.env) fp) c' tg ws g)
    (ht : ∀ (c' : Ctx) (s : Shared) (H : Hp) (C : Addr) (cl : List (Str × Addr)) (fp : List Addr), PDTs (X.blk s H scope (compEnvC scope cl C X.env) fp) c' ifs tt) (he : ∀ (c' : Ctx) (s : Shared) (H : Hp) (C : Addr) (cl : List (Str × Addr)) (fp : List Addr), PD (X.blk s H scope (compEnvC scope cl C X.env) fp) c' elt te)
    (ok : blkC X.N X.env.scope scope own = true := by rfl) (hws : ∀ i ∈ ws, i ∈ own.map (·.2) := by decide) (hs : ∀ x, foldedSetIterable iter X.env x = pure x := by intro _; rfl) : PD X c (.ListComp elt [⟨tg, iter, ifs, 0⟩] scope pos) (dLc o ti g tt te (own.map (·.2))) :=
  pd_lc o r.calm r.nd hi (blkOk_by ok) hws hg ht he hs
theorem q_setLc {elt : Expr} {ifs : List Expr} {scope : Scope} {tt : TDT} {y : Str} {py spos : Pos} (o : Bool) (r : Rm X) (i : Nat) (own : List (Str × Nat)) (hi : PDI X c tg iter ti) (hg : ∀ (c' : Ctx) (s : Shared) (H : Hp) (C : Addr) (cl : List (Str × Addr)) (fp : List Addr), PDG (X.blk s H scope (compEnvC scope cl C X.env) fp) c' tg ws g)
    (ht : ∀ (c' : Ctx) (s : Shared) (H : Hp) (C : Addr) (cl : List (Str × Addr)) (fp : List Addr), PDTs (X.blk s H scope (compEnvC scope cl C X.env) fp) c' ifs tt) (he : ∀ (c' : Ctx) (s : Shared) (H : Hp) (C : Addr) (cl : List (Str × Addr)) (fp : List Addr), PD (X.blk s H scope (compEnvC scope cl C X.env) fp) c' elt te)
    (hy : X.N[i]? = some y := by rfl) (hyl : X.env.scope.names.lookup y = some .local := by rfl) (hsw : swapsWith (.ListComp elt [⟨tg, iter, ifs, 0⟩] scope pos) (some (.Name y py)) spos.line X.env = pure true := by exact sw_true rfl rfl rfl (by decide +kernel))
    (ok : blkC X.N X.env.scope scope own = true := by rfl) (hws : ∀ i ∈ ws, i ∈ own.map (·.2) := by decide) (hs : ∀ x, foldedSetIterable iter X.env x = pure x := by intro _; rfl) : PDS X c (.Assign [.Name y py] (.ListComp elt [⟨tg, iter, ifs, 0⟩] scope pos) spos) (sAsg (dLc o ti g tt te (own.map (·.2))) (gtName i)) :=
  pds_setLc o r.calm r.nd hy hyl hsw hi (blkOk_by ok) hws hg ht he hs
end
end L3
namespace L3
open PySem PySem.Spec PyProof.Rows L2
theorem Rm.u80 {X : Cx} (r : Rm X) : X.A.units + 80 < cLine := by have := r.hu; omega
theorem Rm.u64 {X : Cx} (r : Rm X) : X.A.units + 64 < cLine := by have := r.hu; omega
theorem Rm.u1 {X : Cx} (r : Rm X) : X.A.units + 1 < cLine := by have := r.hu; omega
abbrev oSub : DSp := oInt (fun _ _ => True) fun i j => i - j
abbrev oFdiv : DSp := oInt CDivW fun i j => i / j
abbrev oMod : DSp := oInt (fun _ j => 0 < j) fun i j => i % j
abbrev oPow : DSp := oInt CPow fun i j => i ^ j.toNat
def dUn (dl : DSp) (ta : TD) : TD := fun env M P => ta env M fun d M1 => dl M1 [d] P
section
variable {X : Cx} {c : Ctx} {pos p p2 q : Pos} {a : Expr} {ta te : TD}
theorem q_neg (ha : PD X c a ta) : PD X c (.UnaryOp .USub a pos) (dUn oNeg ta) := pd_un op_negD ha
theorem q_lenSet (r : Rm X) (ha : PD X c a te) (hm : X.mg "len" = none) (hm2 : X.mg "set" = none) (hg : Gl X "len" := by rfl) (hg2 : Gl X "set" := by rfl) (na : SE X a [] := by exact se_of rfl) (na2 : SE X (.Call (.Name "set" p2) [a] [] q) [] := by exact se_of rfl) : PD X c (.Call (.Name "len" p) [.Call (.Name "set" p2) [a] [] q] [] pos) (dLenSet te) :=
  pd_lenSet r.calm hg hm hg2 hm2 ha na na2
theorem q_sortSet (o : Bool) (r : Rm X) (ha : PD X c a te) (hm : X.mg "sorted" = none) (hm2 : X.mg "set" = none) (hg : Gl X "sorted" := by rfl) (hg2 : Gl X "set" := by rfl) (na : SE X a [] := by exact se_of rfl) (na2 : SE X (.Call (.Name "set" p2) [a] [] q) [] := by rfl) : PD X c (.Call (.Name "sorted" p) [.Call (.Name "set" p2) [a] [] q] [] pos) (dSortSet o te) :=
  pd_sortSet r.calm r.u80 hg hm hg2 hm2 ha na na2
theorem q_lc2 {elt tg iter tg1 iter1 : Expr} {ifs ifs1 : List Expr} {scope : Scope} {ti ti1 : TDI} {g g1 : TDG} {tt tt1 : TDT} {ws ws1 : List Nat} (o : Bool) (r : Rm X) (own : List (Str × Nat)) (vs1 : List Nat) (hi : PDI X c tg iter ti) (hg : ∀ (c' : Ctx) (s : Shared) (H : Hp) (C : Addr) (cl : List (Str × Addr)) (fp : List Addr), PDG (X.blk s H scope (compEnvC scope cl C X.env) fp) c' tg ws g)
    (ht : ∀ (c' : Ctx) (s : Shared) (H : Hp) (C : Addr) (cl : List (Str × Addr)) (fp : List Addr), PDTs (X.blk s H scope (compEnvC scope cl C X.env) fp) c' ifs tt) (hi1 : ∀ (c' : Ctx) (s : Shared) (H : Hp) (C : Addr) (cl : List (Str × Addr)) (fp : List Addr), PDI (X.blk s H scope (compEnvC scope cl C X.env) fp) c' tg1 iter1 ti1)
    (hg1 : ∀ (c' : Ctx) (s : Shared) (H : Hp) (C : Addr) (cl : List (Str × Addr)) (fp : List Addr), PDG (X.blk s H scope (compEnvC scope cl C X.env) fp) c' tg1 ws1 g1) (ht1 : ∀ (c' : Ctx) (s : Shared) (H : Hp) (C : Addr) (cl : List (Str × Addr)) (fp : List Addr), PDTs (X.blk s H scope (compEnvC scope cl C X.env) fp) c' ifs1 tt1)
    (he : ∀ (c' : Ctx) (s : Shared) (H : Hp) (C : Addr) (cl : List (Str × Addr)) (fp : List Addr), PD (X.blk s H scope (compEnvC scope cl C X.env) fp) c' elt te) (ok : blkC X.N X.env.scope scope own = true := by rfl) (hv : ∀ i ∈ vs1, i ∈ own.map (·.2) := by decide) (hws : ∀ i ∈ ws, i ∈ own.map (·.2) := by decide) (hws1 : ∀ i ∈ ws1, i ∈ vs1 := by decide)
    (hs : ∀ x, foldedSetIterable iter X.env x = pure x := by intro _; rfl) (hs1 : ∀ env x, foldedSetIterable iter1 env x = pure x := by intro _ _; rfl) : PD X c (.ListComp elt [⟨tg, iter, ifs, 0⟩, ⟨tg1, iter1, ifs1, 0⟩] scope pos) (dLc2 o ti g tt ti1 g1 tt1 te (own.map (·.2)) vs1) :=
  pd_lc2 o r.calm r.nd hi (blkOk_by ok) hv hws hws1 hg ht hi1 hg1 ht1 he hs hs1
end
theorem FS.mono {P : Program} {w : PySem.World} {K : PySem.W.Frag} {mg : Str → Option Value} {base : Heap} {j k : Nat} {x : Str} {st : Stmt} {ps : List Str} {dl : DSp} (G : FS P w K mg base j x st ps dl) (h : j ≤ k) : FS P w K mg base k x st ps dl := by
  obtain ⟨f, fd, F, G, hb, hm⟩ := G.ex
  exact ⟨f, fd, F, G.mono h, hb, hm⟩
/-- of a def that isn't called -/
theorem fs_none {P : Program} {w : PySem.World} {K : PySem.W.Frag} {mg : Str → Option Value} {base : Heap} {k : Nat} {x : Str} {st : Stmt} {ps : List Str} {f : Addr} {fd : FuncData} (F : L2.Fun K x x st f fd) (hmg : mg x = some (.ref f)) (hb : BindsF x st ps) : FS P w K mg base k x st ps fun _ _ _ => False :=
  ⟨f, fd, F, ⟨fun vs H Q E h => by obtain ⟨_, _, _, _, _, _, _, _, q, _⟩ := h; exact q.elim, fun A outer s H args us vs Q E _ _ _ _ _ h => by obtain ⟨_, _, _, _, _, _, _, _, q, _⟩ := h; exact q.elim⟩, F.binds hb, hmg⟩
end L3
namespace L3
open PySem PySem.Spec PyProof.Rows L2
theorem ex2 {α β : Type} {a : α} {b : β} {p : α → β → Prop} : (∃ x y, (a = x ∧ b = y) ∧ p x y) ↔ p a b := ⟨by rintro ⟨_, _, ⟨rfl, rfl⟩, h⟩; exact h, fun h => ⟨_, _, ⟨rfl, rfl⟩, h⟩⟩
/-! ### readings told as sums: what is known is worked out -/
section
variable {env : Env3} {M : St3} {P : KD}
theorem dVar_m {i : Nat} : dVar i env M P = (match env[i]? with | some (some d) => P d M | _ => False) := by
  unfold dVar
  cases h : env[i]? with
  | none => simp
  | some o => cases o with
    | none => simp
    | some d => simp
theorem dTru_m {t : TD} {Q : Bool → St3 → Prop} : dTru t env M Q = t env M fun d M1 => match truD (vw M1 d) with | some b => Q b M1 | none => False := by
  unfold dTru
  congr 1; funext d M1
  cases truD (vw M1 d) <;> simp
theorem dAnd_m {t u : TD} : dAnd t u env M P = t env M fun d M1 => match truD (vw M1 d) with | some b => if b = true then u env M1 P else P d M1 | none => False := by
  unfold dAnd
  congr 1; funext d M1
  cases truD (vw M1 d) <;> simp
theorem dOr_m {t u : TD} : dOr t u env M P = t env M fun d M1 => match truD (vw M1 d) with | some b => if b = true then P d M1 else u env M1 P | none => False := by
  unfold dOr
  congr 1; funext d M1
  cases truD (vw M1 d) <;> simp
theorem dNot_m {t : TD} : dNot t env M P = t env M fun d M1 => match truD (vw M1 d) with | some b => P (.bl (!b)) M1 | none => False := by
  unfold dNot
  congr 1; funext d M1
  cases truD (vw M1 d) <;> simp
theorem dChain_m {d1 d2 : DSp} {ta tb tc : TD} : dChain d1 d2 ta tb tc env M P = ta env M fun x M1 => tb env M1 fun y M2 => d1 M2 [x, y] fun z M3 => match z with | .bl k => if k = true then tc env M3 fun w M4 => d2 M4 [y, w] P else P (.bl false) M3 | _ => False := by
  unfold dChain
  congr 1; funext x M1; congr 1; funext y M2; congr 1; funext z M3
  cases z <;> simp
theorem dIter_m {t : TD} {P : KI} : dIter t env M P = t env M fun d M1 => match itemsOf M1 d with | some q => P q.1 q.2 M1 | none => False := by
  unfold dIter
  congr 1; funext d M1
  cases itemsOf M1 d <;> simp
theorem dRange1_m {t : TDA} {P : KI} : dRange1 t env M P = t env M fun ds M1 => match ds with | [.int n] => rgB n ∧ P (seqI 0 n.toNat) (fun _ => True) M1 | _ => False := by
  unfold dRange1
  congr 1; funext ds M1
  split
  · simp [ex2]
  · rename_i h; simp only [eq_iff_iff, iff_false]; rintro ⟨n, rfl, _⟩; exact h n rfl
theorem dPart_m {t : TD} {P : Option Int → St3 → Prop} : dPart t env M P = t env M fun d M1 => match d with | .int i => P (some i) M1 | _ => False := by
  unfold dPart
  congr 1; funext d M1
  cases d <;> simp
theorem gtCons_m {d : D} {r : List D} {t : TDG} {u : TDGs} {P : Env3 → St3 → Prop} : gtCons t u (d :: r) env M P = t d env M fun env1 M1 => u r env1 M1 P := by
  unfold gtCons; simp [ex2]
theorem gtNil_m {P : Env3 → St3 → Prop} : gtNil [] env M P = P env M := by unfold gtNil; simp
theorem gtTup_m {n : Nat} {t : TDGs} {d : D} {P : Env3 → St3 → Prop} : gtTup n t d env M P = (match d with | .tup ds => ds.length = n ∧ t ds env M P | _ => False) := by
  unfold gtTup; cases d <;> simp
theorem sPar_m {i j : Nat} {t : TDA} {Z : End3} : sPar i j t Z env M = t env M fun ds M1 => match ds with | [a, b] => Z.nx ((env.set i (some a)).set j (some b)) M1 | _ => False := by
  unfold sPar
  congr 1; funext ds M1
  split
  · simp [ex2]
  · rename_i h; simp only [eq_iff_iff, iff_false]; rintro ⟨a, b, rfl, _⟩; exact h a b rfl
end
section
variable {M : St3} {P : KD} {a b : D}
theorem oAdd_m : oAdd M [a, b] P = (match vw M a, vw M b with
  | .int i, .int j => P (.int (i + j)) M
  | .str x, .str y => x.length + y.length ≤ sizeLine ∧ P (.str (x ++ y)) M
  | .tup x, .tup y => x.length + y.length ≤ sizeLine ∧ P (.tup (x ++ y)) M
  | .lst x, .lst y => x.length + y.length ≤ sizeLine ∧ P (.lst (x ++ y)) M
  | _, _ => False) := propext ⟨fun ⟨_, _, e, h⟩ => by injection e with e1 e2; injection e2 with e2; subst e1 e2; exact h, fun h => ⟨_, _, rfl, h⟩⟩
theorem oInt_m {C : Int → Int → Prop} {f : Int → Int → Int} : oInt C f M [a, b] P = (match a, b with | .int i, .int j => C i j ∧ P (.int (f i j)) M | _, _ => False) := by
  unfold oInt
  split
  · simp [ex2]
  · rename_i h; simp only [eq_iff_iff, iff_false]; rintro ⟨i, j, e, _⟩; injection e with e1 e2; injection e2 with e2; exact h i j e1 e2
theorem oNeg_m : oNeg M [a] P = (match a with | .int i => P (.int (-i)) M | _ => False) := by
  unfold oNeg; cases a <;> simp
theorem oOrd_m {o : Ord4} : oOrd o M [a, b] P = (match vw M a, vw M b with
  | .int i, .int j => P (.bl (o.iB i j)) M
  | a, b => ordC a b ∧ P (.bl (o.dB a.toP b.toP)) M) := propext ⟨fun ⟨_, _, e, h⟩ => by injection e with e1 e2; injection e2 with e2; subst e1 e2; exact h, fun h => ⟨_, _, rfl, h⟩⟩
theorem oIx_m : oIx M [a, b] P = (match vw M a with
  | .lst xs => ∃ i d, b = .int i ∧ atI xs i = some d ∧ P d M
  | .tup xs => ∃ i d, b = .int i ∧ atI xs i = some d ∧ P d M
  | .str z => ∃ i k, b = .int i ∧ atI z.cps.toList i = some k ∧ P (.str ⟨#[k]⟩) M
  | .dic ks es => ∃ k d, keyD b = some k ∧ getK ks es k = some d ∧ P d M
  | _ => False) := propext ⟨fun ⟨_, _, e, h⟩ => by injection e with e1 e2; injection e2 with e2; subst e1 e2; exact h, fun h => ⟨_, _, rfl, h⟩⟩
theorem oLen_m : oLen M [a] P = (match lenD (vw M a) with | some n => P (.int n) M | none => False) := by
  unfold oLen
  cases h : lenD (vw M a) <;> simp [h]
theorem oToInt_m : oToInt M [a] P = (match a with | .int i => P (.int i) M | .bl b => P (.int (if b = true then 1 else 0)) M | _ => False) := by
  unfold oToInt; cases a <;> simp
theorem oMax2_m : oMax2 M [a, b] P = (match a, b with | .int i, .int j => P (.int (if j > i then j else i)) M | _, _ => False) := by
  unfold oMax2; cases a <;> cases b <;> simp [ex2]
theorem oToTup_m : oToTup M [a] P = (match seqD (vw M a) with | some xs => P (.tup xs) M | none => False) := by
  unfold oToTup
  cases h : seqD (vw M a) <;> simp [h]
theorem oToList_m {o : Bool} : oToList o M [a] P = (match seqD (vw M a) with | some xs => if o = true then P (.obj M.length) (M ++ [.lst xs]) else P (.lst xs) M | none => False) := by
  unfold oToList
  cases h : seqD (vw M a) <;> simp [h]
theorem oGet1_m : oGet1 M [a, b] P = (match vw M a, keyD b with | .dic ks es, some k => P ((getK ks es k).getD .non) M | _, _ => False) := by
  unfold oGet1
  cases h : keyD b <;> cases h2 : vw M a <;> simp [h, h2, ex2]
theorem oUpper_m : oUpper M [a] P = (match a with | .str x => x.length ≤ 5592405 ∧ (Txt.upper x).length ≤ sizeLine ∧ P (.str (Txt.upper x)) M | _ => False) := by
  unfold oUpper; cases a <;> simp
theorem oRepr_m : oRepr M [a] P = (repOk (vw M a) ∧ P (.str (vw M a).toP.shown) M) := by unfold oRepr; simp
end
end L3
namespace L3
open PySem PySem.Spec PyProof.Rows L2
section
variable {M : St3} {P : KD} {a b : D}
theorem oIsi_m {T : String} (hT : tyKnown T = true) : oIsi M [a, .raw (.ty T)] P = (tyD (vw M a) ≠ "" ∧ P (.bl (isaD (vw M a) T)) M) := by
  unfold oIsi
  simp [ex2, hT]
theorem oAll_m : oAll M [a] P = (∃ bs : List Bool, vw M a = .lst (bs.map D.bl) ∧ P (.bl (bs.all id)) M) := by unfold oAll; simp
theorem oSum_m : oSum M [a] P = (∃ ns : List Int, vw M a = .lst (ns.map D.int) ∧ P (.int ns.sum) M) := by unfold oSum; simp
theorem oEq_m : oEq M [a, b] P = (∃ r, eqD (vw M a) (vw M b) r ∧ P (.bl r) M) := propext ⟨fun ⟨_, _, r, e, h⟩ => by injection e with e1 e2; injection e2 with e2; subst e1 e2; exact ⟨r, h⟩, fun ⟨r, h⟩ => ⟨_, _, r, rfl, h⟩⟩
theorem oNe_m : oNe M [a, b] P = (∃ r, eqD (vw M a) (vw M b) r ∧ P (.bl (!r)) M) := propext ⟨fun ⟨_, _, r, e, h⟩ => by injection e with e1 e2; injection e2 with e2; subst e1 e2; exact ⟨r, h⟩, fun ⟨r, h⟩ => ⟨_, _, r, rfl, h⟩⟩
theorem eqD_int (i j : Int) : eqD (.int i) (.int j) (decide (i = j)) := by
  left; refine ⟨rfl, rfl, .inl (by simp [dDep, D.toP, PyData.depth]), ?_⟩
  simp only [D.toP, PyData.eqv]
  rw [Bool.eq_iff_iff]; simp
end
/-- a comprehension that keeps the store -/
theorem lcGo_pure {g : TDG} {tt : TDT} {te : TD} {chk : St3 → Prop} {env0 : Env3} {P : List D → St3 → Prop} {M : St3} (p : D → Bool) (f : D → D) (hc : chk M) : ∀ {xs acc : List D}, acc.length + xs.length ≤ sizeLine →
    (∀ x ∈ xs, ∀ (Kn : St3 → Prop) (Ks : KD), (p x = true → Ks (f x) M) → (p x = false → Kn M) → g x env0 M fun env1 M1 => tt env1 M1 fun b M2 => if b = true then te env1 M2 Ks else Kn M2) →
    P (acc ++ (xs.filter p).map f) M → lcGo g tt te chk env0 P xs acc M
  | [], acc, hl, h, q => ⟨hc, by simpa using q⟩
  | x :: xs, acc, hl, h, q => by
    simp only [List.length_cons] at hl
    refine ⟨hc, h x (by simp) _ _ (fun hp => ⟨by omega, ?_⟩) (fun hp => ?_)⟩
    · refine lcGo_pure p f hc (by simp; omega) (fun y hy => h y (by simp [hy])) ?_
      simpa [List.filter_cons, hp] using q
    · refine lcGo_pure p f hc (by omega) (fun y hy => h y (by simp [hy])) ?_
      simpa [List.filter_cons, hp] using q
/-- a for loop with an invariant: I i before the item i -/
theorem forGo_inv {g : TDG} {tb : TDS} {Z : End3} {chk : St3 → Prop} {items : List D} (I : Nat → Env3 → St3 → Prop)
    (step : ∀ i x env M, items[i]? = some x → I i env M → ∀ N : Env3 → St3 → Prop, (∀ env M, I (i + 1) env M → N env M) → chk M ∧ g x env M fun env1 M1 => tb { Z with nx := N, ct := N, bk := Z.nx } env1 M1)
    (last : ∀ env M, I items.length env M → chk M ∧ Z.nx env M) {env : Env3} {M : St3} (h0 : I 0 env M) : forGo g tb Z chk items env M := by
  suffices go : ∀ (xs : List D) (i : Nat), items.drop i = xs → i ≤ items.length → ∀ env M, I i env M → forGo g tb Z chk xs env M from go items 0 rfl (Nat.zero_le _) env M h0
  intro xs
  induction xs with
  | nil =>
    intro i e hi env M h
    have hl : items.length ≤ i := List.drop_eq_nil_iff.mp e
    have q : i = items.length := by omega
    subst q; exact last env M h
  | cons x xs ih =>
    intro i e _ env M h
    have hi : items[i]? = some x := by
      have := congrArg List.head? e
      simpa [List.head?_drop] using this
    have ht : items.drop (i + 1) = xs := by rw [← List.drop_drop, e]; rfl
    have hl := (List.getElem?_eq_some_iff.mp hi).1
    exact step i x env M hi h _ fun env M h' => ih (i + 1) ht hl env M h'
end L3
namespace L3
open PySem PySem.Spec PyProof.Rows L2
/-! ### more readings told as matches -/
section
variable {M : St3} {P : KD} {a b : D} {Q : St3 → Prop}
theorem eqD_fun {a b : D} {r q : Bool} (h : eqD a b r) (h2 : eqD a b q) : r = q := by
  rcases h with ⟨h1, h2', h3, rfl⟩ | ⟨ds, rfl, rfl, rfl⟩ | ⟨ds, rfl, rfl, rfl⟩ <;> rcases h2 with ⟨k1, k2, k3, rfl⟩ | ⟨es, k1, k2, rfl⟩ | ⟨es, k1, k2, rfl⟩
  · rfl
  · subst k1 k2; cases es <;> simp [D.toP, D.toPs, PyData.eqv, PyData.eqvAll]
  · subst k1 k2; cases es <;> simp [D.toP, D.toPs, PyData.eqv, PyData.eqvAll]
  · cases ds <;> simp [D.toP, D.toPs, PyData.eqv, PyData.eqvAll]
  · cases k1; rfl
  · cases k1
  · cases ds <;> simp [D.toP, D.toPs, PyData.eqv, PyData.eqvAll]
  · cases k1
  · cases k1; rfl
theorem eqD_ex {a b : D} {r : Bool} (h : eqD a b r) {P : Bool → Prop} : (∃ r, eqD a b r ∧ P r) = P r := propext ⟨fun ⟨q, h2, p⟩ => by rw [eqD_fun h h2]; exact p, fun p => ⟨r, h, p⟩⟩
theorem eq_ii {i j : Int} {P : Bool → Prop} : (∃ r, eqD (.int i) (.int j) r ∧ P r) = P (decide (i = j)) := eqD_ex (eqD_int i j)
theorem eq_l0 {xs : List D} {P : Bool → Prop} : (∃ r, eqD (.lst xs) (.lst []) r ∧ P r) = P xs.isEmpty := eqD_ex (.inr (.inr ⟨xs, rfl, rfl, rfl⟩))
theorem eq_t0 {xs : List D} {P : Bool → Prop} : (∃ r, eqD (.tup xs) (.tup []) r ∧ P r) = P xs.isEmpty := eqD_ex (.inr (.inl ⟨xs, rfl, rfl, rfl⟩))
theorem eq_ss {x y : Str} {P : Bool → Prop} : (∃ r, eqD (.str x) (.str y) r ∧ P r) = P (decide (x = y)) := eqD_ex (.inl ⟨rfl, rfl, .inl (by simp [dDep, D.toP, PyData.depth]), by
  simp only [D.toP, PyData.eqv]
  rw [Bool.eq_iff_iff]; simp⟩)
theorem atI_m {α : Type} {xs : List α} {i : Int} {p : α → Prop} : (∃ (j : Int) (d : α), D.int i = .int j ∧ atI xs j = some d ∧ p d) = (match atI xs i with | some d => p d | none => False) := by
  cases h : atI xs i with
  | none => simp only [eq_iff_iff, iff_false]; rintro ⟨j, d, e, q, _⟩; cases e; rw [h] at q; cases q
  | some d => simp only [eq_iff_iff]; exact ⟨fun ⟨j, d', e, q, p⟩ => by cases e; rw [h] at q; cases q; exact p, fun p => ⟨i, d, rfl, h, p⟩⟩
theorem getK_m {ks : List Key} {es : List D} {b : D} {p : D → Prop} : (∃ k d, keyD b = some k ∧ getK ks es k = some d ∧ p d) = (match keyD b with | some k => (match getK ks es k with | some d => p d | none => False) | none => False) := by
  cases h : keyD b with
  | none => simp
  | some k => cases h2 : getK ks es k with
    | none => simp [h2]
    | some d => simp [h2]
theorem oMax2I {i j : Int} : oMax2 M [.int i, .int j] P = P (.int (if j > i then j else i)) M := by rw [oMax2_m]
theorem oMulI {i j : Int} : oMul M [.int i, .int j] P = (CMulW i j ∧ P (.int (i * j)) M) := by
  unfold oMul oMulT oMulS
  simp [oInt_m]
theorem oPop_m {n : Nat} : oPop M [.obj n] P = (match M[n]? with | some (.lst xs) => (match xs[xs.length - 1]? with | some d => P d (M.set n (.lst xs.dropLast)) | none => False) | _ => False) := by
  unfold oPop
  split
  · rename_i xs h
    split
    · rename_i d h2
      simp only [List.cons.injEq, D.obj.injEq, and_true, eq_iff_iff]
      exact ⟨fun ⟨_, _, _, e, q, r, p⟩ => by subst e; rw [h] at q; cases q; rw [h2] at r; cases r; exact p, fun p => ⟨_, _, _, rfl, h, h2, p⟩⟩
    · rename_i h2
      simp only [List.cons.injEq, D.obj.injEq, and_true, eq_iff_iff, iff_false]
      rintro ⟨_, _, _, e, q, r, p⟩; subst e; rw [h] at q; cases q; rw [h2] at r; cases r
  · rename_i h
    simp only [List.cons.injEq, D.obj.injEq, and_true, eq_iff_iff, iff_false]
    rintro ⟨_, _, _, e, q, r, p⟩; subst e; exact h _ q
theorem oAppend_m {n : Nat} {d : D} : oAppend M [.obj n, d] P = (match M[n]? with | some (.lst xs) => xs.length < sizeLine ∧ P .non (M.set n (.lst (xs ++ [d]))) | _ => False) := by
  unfold oAppend
  split
  · rename_i xs h
    simp only [List.cons.injEq, D.obj.injEq, and_true, eq_iff_iff]
    exact ⟨fun ⟨_, _, _, e, q, p⟩ => by obtain ⟨e1, e2⟩ := e; subst e1 e2; rw [h] at q; cases q; exact p, fun p => ⟨_, _, _, ⟨rfl, rfl⟩, h, p⟩⟩
  · rename_i h
    simp only [List.cons.injEq, D.obj.injEq, and_true, eq_iff_iff, iff_false]
    rintro ⟨_, _, _, e, q, p⟩; obtain ⟨e1, e2⟩ := e; subst e1 e2; exact h _ q
theorem oPut_m {n : Nat} {b d : D} : oPut M (.obj n) b d Q = (match M[n]? with
    | some (.lst xs) => (match b with | .int k => (match ixN xs.length k with | some j => Q (M.set n (.lst (xs.set j d))) | none => False) | _ => False)
    | some (.dic ks ds) => (match keyD b with | some k => ks.length < sizeLine ∧ Q (M.set n (.dic (putKs ks k) (putDs ks ds k d))) | none => False)
    | _ => False) := by
  unfold oPut
  have e1 : ∀ p : Nat → Prop, (∃ m, D.obj n = D.obj m ∧ p m) = p n := fun p => by simp
  rw [e1]
  cases h : M[n]? with
  | none => rfl
  | some o =>
    cases o with
    | lck _ _ => rfl
    | lst xs =>
      cases b <;> simp
      rename_i k
      cases h2 : ixN xs.length k <;> simp [h2]
    | dic ks ds =>
      cases h2 : keyD b <;> simp [h2]
theorem oIsi_T {T : String} : oIsi M [a, .raw (.ty T)] P = (tyKnown T = true ∧ tyD (vw M a) ≠ "" ∧ P (.bl (isaD (vw M a) T)) M) := by
  unfold oIsi
  simp [ex2]
theorem oToStr_m : oToStr M [a] P = (match a with | .int i => i.natAbs.log2 < 1920 ∧ (toString i : Str).length ≤ sizeLine ∧ P (.str (toString i)) M | .str x => P (.str x) M | _ => False) := by
  unfold oToStr; cases a <;> simp
theorem oSIndex_m : oSIndex M [a, b] P = (match a, b with | .str x, .str y => (match Builtin.Str.occurrences x y 0 x.length 1 with | i :: _ => P (.int (i : Nat)) M | [] => False) | _, _ => False) := by
  unfold oSIndex
  cases a <;> cases b <;> simp [ex2]
  rename_i x y
  cases Builtin.Str.occurrences x y 0 x.length 1 <;> simp
end
/-! ### numbers -/
theorem log_lt {i : Int} {n : Nat} (h : i.natAbs < 2 ^ n) : i.natAbs.log2 < n ∨ i = 0 := by
  by_cases h0 : i = 0
  · exact .inr h0
  · exact .inl ((Nat.log2_lt (by omega)).mpr h)
theorem mulW {i j : Int} (a : i.natAbs < 2 ^ 64) (b : j.natAbs < 2 ^ 64) : CMulW i j := by
  unfold CMulW
  have z : ∀ x : Int, x.natAbs < 2 ^ 64 → x.natAbs.log2 < 64 := fun x h => by
    rcases log_lt h with h | h
    · exact h
    · subst h; decide
  have := z i a; have := z j b; omega
theorem small {i : Int} (a : -(2 ^ 64) < i) (b : i < 2 ^ 64) : i.natAbs < 2 ^ 64 := by omega
theorem mul_s {i j : Int} (a : -(2 ^ 64) < i ∧ i < 2 ^ 64) (b : -(2 ^ 64) < j ∧ j < 2 ^ 64) : CMulW i j := mulW (small a.1 a.2) (small b.1 b.2)
theorem divW {i j : Int} (a : 0 < j) (b : j < 2 ^ 64) : CDivW i j := ⟨a, by
  rcases log_lt (i := j) (n := 64) (by omega) with h | h
  · omega
  · omega⟩
/-! ### the deck -/
abbrev dkKs : List Key := [.inr "cells", .inr "mixed", .inr "draws"]
/-- object 0: the cells; object 1: the deck; R: the others -/
def Deck (n : Nat) (R M : St3) : Prop := ∃ (cs : List Int) (mx dr : Int), M = .lst (cs.map .int) :: .dic dkKs [.obj 0, .int mx, .int dr] :: R ∧ cs.length ≤ 63 ∧ 0 ≤ mx ∧ mx < 2147483587 ∧ 0 ≤ dr ∧ dr ≤ n
theorem Deck.mono {n m : Nat} {R M : St3} (h : Deck n R M) (l : n ≤ m) : Deck m R M := by
  obtain ⟨cs, mx, dr, e, h1, h2, h3, h4, h5⟩ := h
  exact ⟨cs, mx, dr, e, h1, h2, h3, h4, by omega⟩
abbrev dkMax : Nat := 1000000
/-- a draw -/
def spDraw : DSp := fun M ds Q => ∃ (k : Int) (n : Nat) (R : St3), ds = [.obj 1, .int k] ∧ (0 < k ∧ k < 2 ^ 60) ∧ n ≤ dkMax ∧ Deck n R M ∧ ∀ (r : Int) M', 0 ≤ r → r < k → Deck (n + 1) R M' → Q (.int r) M'
/-- a pick of a list -/
def spPick : DSp := fun M ds Q => ∃ (xs : List D) (n : Nat) (R : St3), ds = [.obj 1, .lst xs] ∧ (xs ≠ [] ∧ xs.length < 2 ^ 60) ∧ n ≤ dkMax ∧ Deck n R M ∧ ∀ x M', x ∈ xs → Deck (n + 1) R M' → Q x M'
theorem atI_mem {α : Type} {xs : List α} {r : Int} (h0 : 0 ≤ r) (h1 : r < xs.length) : ∃ x, atI xs r = some x ∧ x ∈ xs := by
  unfold atI ixN
  rw [if_pos h0, if_pos h1]
  have hl : r.toNat < xs.length := by omega
  exact ⟨xs[r.toNat], by simp [hl], List.getElem_mem _⟩
end L3
namespace L3
open PySem PySem.Spec PyProof.Rows L2
/-! ### the parts of a reading, unfolded from the outside -/
section
variable {env : Env3} {M : St3}
theorem sSeq_u {t u : TDS} {D : End3} : (sSeq t u D env M) = (t { D with nx := u D } env M) := rfl
theorem sNext_u {D : End3} : (sNext D env M) = (D.nx env M) := rfl
theorem sBreak_u {D : End3} : (sBreak D env M) = (D.bk env M) := rfl
theorem sCont_u {D : End3} : (sCont D env M) = (D.ct env M) := rfl
theorem sDrop_u {te : TD} {D : End3} : (sDrop te D env M) = (te env M fun _ M1 => D.nx env M1) := rfl
theorem sRet_u {te : TD} {D : End3} : (sRet te D env M) = (te env M D.rt) := rfl
theorem sRetN_u {D : End3} : (sRetN D env M) = (D.rt .non M) := rfl
theorem sIf_u {tc : TDT} {t u : TDS} {D : End3} : (sIf tc t u D env M) = (tc env M fun b M1 => if b = true then t D env M1 else u D env M1) := rfl
theorem sAsg_u {te : TD} {g : TDG} {D : End3} : (sAsg te g D env M) = (te env M fun d M1 => g d env M1 D.nx) := rfl
theorem sPut_u {to ti tv : TD} {D : End3} : (sPut to ti tv D env M) = (tv env M fun d M1 => to env M1 fun a M2 => ti env M2 fun b M3 => oPut M3 a b d fun M4 => D.nx env M4) := rfl
theorem sFor_u {ti : TDI} {g : TDG} {tb : TDS} {D : End3} : (sFor ti g tb D env M) = (ti env M fun items chk M1 => forGo g tb D chk items env M1) := rfl
theorem dC_u {d : D} {P : KD} : (dC d env M P) = (P d M) := rfl
theorem dNil_u {P : List D → St3 → Prop} : (dNil env M P) = (P [] M) := rfl
theorem dCons_u {ta : TD} {tr : TDA} {P : List D → St3 → Prop} : (dCons ta tr env M P) = (ta env M fun d M1 => tr env M1 fun ds M2 => P (d :: ds) M2) := rfl
theorem dBlt_u {dl : DSp} {t : TDA} {P : KD} : (dBlt dl t env M P) = (t env M fun ds M1 => dl M1 ds P) := rfl
theorem dOp2_u {dl : DSp} {ta tb : TD} {P : KD} : (dOp2 dl ta tb env M P) = (ta env M fun x M1 => tb env M1 fun y M2 => dl M2 [x, y] P) := rfl
theorem dUn_u {dl : DSp} {ta : TD} {P : KD} : (dUn dl ta env M P) = (ta env M fun d M1 => dl M1 [d] P) := rfl
theorem dMeth_u {T : String} {dl : DSp} {to : TD} {t : TDA} {P : KD} : (dMeth T dl to t env M P) = (to env M fun d M1 => mthTy (vw M1 d) = T ∧ t env M1 fun ds M2 => dl M2 (d :: ds) P) := rfl
theorem dCall_u {n : Nat} {dl : DSp} {t : TDA} {P : KD} : (dCall n dl t env M P) = (t env M fun ds M1 => ds.length = n ∧ dl M1 ds P) := rfl
theorem dCallK_u {n nk : Nat} {perm : List Nat} {dl : DSp} {t tk : TDA} {P : KD} : (dCallK n nk perm dl t tk env M P) = (t env M fun ds M1 => tk env M1 fun es M2 => (ds.length + es.length = n ∧ es.length = nk) ∧ dl M2 (pickL .non perm (ds ++ es)) P) := rfl
theorem dNotT_u {t : TDT} {Q : Bool → St3 → Prop} : (dNotT t env M Q) = (t env M fun b M1 => Q (!b) M1) := rfl
theorem dAndT_u {t u : TDT} {Q : Bool → St3 → Prop} : (dAndT t u env M Q) = (t env M fun b M1 => if b = true then u env M1 Q else Q false M1) := rfl
theorem dOrT_u {t u : TDT} {Q : Bool → St3 → Prop} : (dOrT t u env M Q) = (t env M fun b M1 => if b = true then Q true M1 else u env M1 Q) := rfl
theorem dIf_u {c : TDT} {t u : TD} {P : KD} : (dIf c t u env M P) = (c env M fun b M1 => if b = true then t env M1 P else u env M1 P) := rfl
theorem dTup_u {t : TDA} {P : KD} : (dTup t env M P) = (t env M fun ds M1 => ds.length ≤ sizeLine ∧ P (.tup ds) M1) := rfl
theorem dLst_u {t : TDA} {P : KD} : (dLst t env M P) = (t env M fun ds M1 => ds.length ≤ sizeLine ∧ P (.lst ds) M1) := rfl
theorem dLstO_u {t : TDA} {P : KD} : (dLstO t env M P) = (t env M fun ds M1 => ds.length ≤ sizeLine ∧ P (.obj M1.length) (M1 ++ [.lst ds])) := rfl
theorem dSl_u {o : Bool} {te : TD} {tl th : TDO} {P : KD} : (dSl o te tl th env M P) = (te env M fun d M1 => tl env M1 fun lo M2 => th env M2 fun hi M3 => oSl o d lo hi M3 P) := rfl
theorem dNoPart_u {P : Option Int → St3 → Prop} : (dNoPart env M P) = (P none M) := rfl
theorem dRev_u {o : Bool} {te : TD} {P : KD} : (dRev o te env M P) = (te env M fun d M1 => oRev o d M1 P) := rfl
theorem dYes_u {Q : Bool → St3 → Prop} : (dYes env M Q) = (Q true M) := rfl
theorem dDic0_u {o : Bool} {P : KD} : (dDic0 o env M P) = (mkDic o [] [] M P) := rfl
theorem dLc_u {own : Bool} {ti : TDI} {g : TDG} {tt : TDT} {te : TD} {vs : List Nat} {P : KD} : (dLc own ti g tt te vs env M P) = (ti env M fun items chk M1 => lcGo g tt te chk (wipe3 env vs) (fun acc M2 => if own = true then P (.obj M2.length) (M2 ++ [.lst acc]) else P (.lst acc) M2) items [] M1) := rfl
theorem dEnum_u {t : TDA} {P : KI} : (dEnum t env M P) = (t env M fun ds M1 => (∃ d q, ds = [d] ∧ listOf M1 d = some q ∧ P (enumD q.1) q.2 M1) ∨ ∃ xs, ds = [.tup xs] ∧ P (enumD xs) (fun _ => True) M1) := rfl
theorem dZip_u {t : TDA} {P : KI} : (dZip t env M P) = (t env M fun ds M1 => (∃ d e q q2, ds = [d, e] ∧ listOf M1 d = some q ∧ listOf M1 e = some q2 ∧ P (zipD q.1 q2.1) (fun M => q.2 M ∧ q2.2 M) M1) ∨ ∃ xs ys, ds = [.tup xs, .tup ys] ∧ P (zipD xs ys) (fun _ => True) M1) := rfl
theorem gtName_u {i : Nat} {d : D} {P : Env3 → St3 → Prop} : (gtName i d env M P) = (P (env.set i (some d)) M) := rfl
theorem dSortSet_u {o : Bool} {te : TD} {P : KD} : (dSortSet o te env M P) = (dSetK te (fun ks _ M1 => keyS (dedupK ks) ∧ mkLst o (sortD ((dedupK ks).map kD)) M1 P) env M) := rfl
theorem dSetK_u {te : TD} {P : List Key → Env3 → St3 → Prop} : (dSetK te P env M) = (te env M fun a M1 => ∃ xs ks, seqD (vw M1 a) = some xs ∧ keysOf xs = some ks ∧ ks.length < 4000 ∧ P ks env M1) := rfl
theorem dDisp_u {o : Bool} {trs : List (TD × TD)} {P : KD} : (dDisp o trs env M P) = (dPairs trs env M fun ps M1 => ∃ prs, keyed ps = some prs ∧ prs.length ≤ 15 ∧ mkDic o (mergeD [] [] prs).1 (mergeD [] [] prs).2 M1 P) := rfl
end

section
variable {M : St3} {P : KD} {a : D}
theorem eqI {j : Int} : oEq M [a, .int j] P = (match vw M a with | .int i => P (.bl (decide (i = j))) M | d => ∃ r, eqD d (.int j) r ∧ P (.bl (r)) M) := by
  rw [oEq_m]
  split
  · rename_i e; rw [e]; exact eq_ii (P := fun r => P (.bl (r)) M)
  · rfl
theorem eqS {j : Str} : oEq M [a, .str j] P = (match vw M a with | .str i => P (.bl (decide (i = j))) M | d => ∃ r, eqD d (.str j) r ∧ P (.bl (r)) M) := by
  rw [oEq_m]
  split
  · rename_i e; rw [e]; exact eq_ss (P := fun r => P (.bl (r)) M)
  · rfl
theorem eqL : oEq M [a, .lst []] P = (match vw M a with | .lst xs => P (.bl (xs.isEmpty)) M | d => ∃ r, eqD d (.lst []) r ∧ P (.bl (r)) M) := by
  rw [oEq_m]
  split
  · rename_i e; rw [e]; exact eq_l0 (P := fun r => P (.bl (r)) M)
  · rfl
theorem eqT : oEq M [a, .tup []] P = (match vw M a with | .tup xs => P (.bl (xs.isEmpty)) M | d => ∃ r, eqD d (.tup []) r ∧ P (.bl (r)) M) := by
  rw [oEq_m]
  split
  · rename_i e; rw [e]; exact eq_t0 (P := fun r => P (.bl (r)) M)
  · rfl
theorem neI {j : Int} : oNe M [a, .int j] P = (match vw M a with | .int i => P (.bl (!decide (i = j))) M | d => ∃ r, eqD d (.int j) r ∧ P (.bl (!r)) M) := by
  rw [oNe_m]
  split
  · rename_i e; rw [e]; exact eq_ii (P := fun r => P (.bl (!r)) M)
  · rfl
theorem neS {j : Str} : oNe M [a, .str j] P = (match vw M a with | .str i => P (.bl (!decide (i = j))) M | d => ∃ r, eqD d (.str j) r ∧ P (.bl (!r)) M) := by
  rw [oNe_m]
  split
  · rename_i e; rw [e]; exact eq_ss (P := fun r => P (.bl (!r)) M)
  · rfl
theorem neL : oNe M [a, .lst []] P = (match vw M a with | .lst xs => P (.bl (!xs.isEmpty)) M | d => ∃ r, eqD d (.lst []) r ∧ P (.bl (!r)) M) := by
  rw [oNe_m]
  split
  · rename_i e; rw [e]; exact eq_l0 (P := fun r => P (.bl (!r)) M)
  · rfl
theorem neT : oNe M [a, .tup []] P = (match vw M a with | .tup xs => P (.bl (!xs.isEmpty)) M | d => ∃ r, eqD d (.tup []) r ∧ P (.bl (!r)) M) := by
  rw [oNe_m]
  split
  · rename_i e; rw [e]; exact eq_t0 (P := fun r => P (.bl (!r)) M)
  · rfl
end
section
variable {M : St3}
theorem vw_non : vw M .non = .non := rfl
theorem vw_bl {b : Bool} : vw M (.bl b) = .bl b := rfl
theorem vw_int {i : Int} : vw M (.int i) = .int i := rfl
theorem vw_str {x : Str} : vw M (.str x) = .str x := rfl
theorem vw_tup {ds : List D} : vw M (.tup ds) = .tup ds := rfl
theorem vw_lst {ds : List D} : vw M (.lst ds) = .lst ds := rfl
theorem vw_dic {ks : List Key} {ds : List D} : vw M (.dic ks ds) = .dic ks ds := rfl
theorem vw_raw {w : V} : vw M (.raw w) = .raw w := rfl
theorem vw_obj {n : Nat} : vw M (.obj n) = (match M[n]? with
    | some (.lst ds) => .lst ds
    | some (.dic ks ds) => .dic ks ds
    | some (.lck ks ds) => .dic ks ds
    | none => .obj n) := rfl
end
end L3
namespace L3
open PySem PySem.Spec PyProof.Rows L2
/-! ### from the law's def to the law: no repr under way at the outermost call -/
section
variable {P : Program} {w : PySem.World} {K : PySem.W.Frag} {mg mb : Str → Option Value} {k : Nat} {fa a : Addr} {x p : Str} {st : Stmt} {dl : DSp} {z : Shared} {vs : List Value} {ns : List Int}
/-- what is asked of the run -/
abbrev Asked (P : Program) (w : PySem.World) (fa a : Addr) (z : Shared) : Prop := codeAny (model P w) callerA (.call (.ref fa) ⟨[.ref a], []⟩) (fun r t => r = .ok (.ret (.bool true)) ∧ OldK z.heap t.heap ∧ t.os = z.os ∧ AllBare t.gens) z
/-- G: what is tracked of the heap: the script at most -/
theorem ask_of {G : Hp} {F : Addr → Prop} (KX : K.In z.heap) (hns : z.heap.Ns mainGlobals mg) (hb : z.heap.Ns builtinsNs mb) (hbb : ∀ x : Str, x ≠ "__name__" → mb x = bootBuiltins x) (hlim : z.heap.NoLimit) (hg : z.gens = #[])
    (ha : z.heap.get? a = some { cls := .type "list", data := .seq vs.toArray }) (hr : Room k callerA) (hfa : mg x = some (.ref fa)) (DF : ∀ base : Heap, K.In base → base.Ns mainGlobals mg → FS P w K mg base k x st [p] dl)
    (gF : ∀ b, F b → ∃ xs, Rd G b (.lst xs)) (gL : FzL K F G a (ns.map V.int)) (ok : HOk P w G z.heap) (gA : ∀ b u, G b = some u → b = a ∧ K.lookup a = none ∧ ∃ o xs, u = .frz o (.lst xs))
    (law : dl [] [.lst (ns.map .int)] fun d _ => d = .bl true) : Asked P w fa a z := by
  have get_of : ∀ {b : Addr} {o : Obj}, z.heap.get? b = some o → (b = a → G a = none) → (hidT z.heap G).get? b = some o := fun {b o} e n => by
    refine hidT_get e ?_
    cases q : G b with
    | none => rfl
    | some u =>
      obtain ⟨rfl, _⟩ := gA b u q
      rw [n rfl] at q; cases q
  have KB : K.In (hidT z.heap G) := fun b o e => get_of (KX b o e) fun q => by
    subst q
    cases q : G b with
    | none => rfl
    | some u => rw [(gA b u q).2.1] at e; cases e
  have NB : ∀ {b : Addr} {m : Str → Option Value}, z.heap.Ns b m → (hidT z.heap G).Ns b m := fun {b m} ⟨o, es, ep, e, d, r⟩ => ⟨o, es, ep, get_of e (fun q => by
    subst q
    rw [ha] at e; cases e
    have d' : Data.seq vs.toArray _ = Data.dict es ep := d
    cases d'), d, r⟩
  obtain ⟨mc, l1, l2⟩ := hlim
  have md : Mod K mg (hidT z.heap G) := ⟨KB, NB hns, ⟨mb, NB hb, hbb⟩, ⟨mc, NB l1, l2⟩⟩
  have start : Env0 P w K mg (hidT z.heap G) callerA [] z G := ⟨rfl, md, fun b o e => of_hidT e, Nat.le_of_eq (hidT_size _ _), trivial, fun b hb => absurd (show b ∈ ([] : List Addr) from hb) (by simp), ok, .of_eq hg⟩
  obtain ⟨f, fd, FF, FG, FB, hm⟩ := (DF _ KB (NB hns)).ex
  cases hm.symm.trans hfa
  have fz : ∀ b, F b → (∃ xs, Rd G b (.lst xs)) ∨ ∃ kvs, Rd G b (.dK kvs) := fun b h => .inl (gF b h)
  have good : Good K F [] G [] := ⟨rfl, List.nodup_nil, fun i b o e => by simp at e, fz⟩
  have rps : ∀ ns : List Int, Rps K F [] G (ns.map D.int) (ns.map V.int) := fun ns => by
    induction ns with
    | nil => simp [Rps]
    | cons i r ih => simp only [List.map_cons, Rps]; exact ⟨_, _, rfl, by simp [Rp], ih⟩
  have args : Rps K F [] G [.lst (ns.map D.int)] [.ref a] := Rps.one (by simp only [Rp]; exact ⟨a, _, rfl, gL, rps ns⟩)
  refine codeAny_mono (FG.run callerA [] z G ⟨[.ref a], []⟩ [.ref a] [.ref a] (fun v _ => v = .bl true) (fun _ _ _ => False) hr rfl start ?_ (.cons rfl .nil) ?_) fun r t h => ?_
  · have := FB z [.ref a] KX (by rfl)
    simpa using this
  · refine ⟨rfl, F, [], [], _, _, good, args, law, fun v H' fin => ?_⟩
    obtain ⟨d, M', F', m', e, _, _, rp⟩ := fin
    subst e
    simpa only [Rp] using rp
  · revert h
    rcases r with e | (_ | _ | _ | u)
    · exact fun h => h.elim
    · exact fun h => h.elim
    · exact fun h => h.elim
    · exact fun h => h.elim
    · rintro ⟨v, H', os, bare, un, hok', r', q⟩
      cases (show v = .bl true from q)
      cases (show u = Value.bool true from r')
      refine ⟨rfl, OldK.of_keep fun b o e => ?_, os, bare⟩
      cases q : G b with
      | none => exact un.keep b o e q (by intro y; exact absurd (show b ∈ ([] : List Addr) from y) (by simp)) (by simp)
      | some u =>
        obtain ⟨rfl, _, ob, xs, rfl⟩ := gA b u q
        have z2 := un.frzs b ob _ q
        obtain ⟨e1, _⟩ := ok b _ q
        obtain ⟨e2, _⟩ := hok' b _ z2
        rw [e] at e1; cases e1
        exact e2
/-- the script as the law meets it: the module's own, or a list that nothing knows -/
theorem ask_law (KX : K.In z.heap) (hns : z.heap.Ns mainGlobals mg) (hb : z.heap.Ns builtinsNs mb) (hbb : ∀ x : Str, x ≠ "__name__" → mb x = bootBuiltins x) (hlim : z.heap.NoLimit) (hg : z.gens = #[])
    (ha : z.heap.get? a = some { cls := .type "list", data := .seq vs.toArray }) (hi : IntsAre vs ns) (hl : ns.length ≤ sizeLine) (hr : Room k callerA) (hfa : mg x = some (.ref fa)) (DF : ∀ base : Heap, K.In base → base.Ns mainGlobals mg → FS P w K mg base k x st [p] dl)
    (law : dl [] [.lst (ns.map .int)] fun d _ => d = .bl true) : Asked P w fa a z := by
  have rv := vals_ints hi
  have sz : vs.toArray.size ≤ sizeLine := by rw [List.size_toArray, hi.length]; exact hl
  cases hk : K.lookup a with
  | some o =>
    have e := (KX a o hk).symm.trans ha
    cases e
    exact ask_of (G := fun _ => none) (F := fun _ => False) KX hns hb hbb hlim hg ha hr hfa DF (fun _ h => h.elim) (.inr ⟨_, vs.toArray, _, hk, rfl, rfl, rfl, sz, by simpa using rv⟩) (fun b u y => by cases (show (none : Option HO) = some u from y)) (fun b u y => by cases (show (none : Option HO) = some u from y)) law
  | none =>
    let ob : Obj := { cls := .type "list", data := .seq vs.toArray }
    let G : Hp := fun b => if b = a then some (.frz ob (.lst (ns.map V.int))) else none
    have Ga : G a = some (.frz ob (.lst (ns.map V.int))) := if_pos rfl
    have Gn : ∀ b, b ≠ a → G b = none := fun b h => if_neg h
    refine ask_of (G := G) (F := fun b => b = a) KX hns hb hbb hlim hg ha hr hfa DF (fun b h => ⟨ns.map V.int, .inr ⟨ob, by rw [show b = a from h]; exact Ga⟩⟩) (.inl ⟨rfl, .inr ⟨ob, Ga⟩⟩) (fun b u y => ?_) (fun b u y => ?_) law
    · by_cases h : b = a
      · subst h
        rw [Ga] at y; cases y
        exact ⟨ha, by rw [List.length_map]; exact hl, vs, _, rv, ha⟩
      · rw [Gn b h] at y; cases y
    · by_cases h : b = a
      · subst h
        rw [Ga] at y; cases y
        exact ⟨rfl, hk, _, _, rfl⟩
      · rw [Gn b h] at y; cases y
end
/-- the goal that the head leaves, from the promise of the law's def -/
theorem walk_fs {l : PySem.W.OpenLaw} {n k : Nat} {q : Program} {loose : List Str} {XP : (Str → Option Value) → Heap → Prop} {YP : PySem.World → Heap → Prop} {d : DefRec} {K : Params → PySem.W.Frag} {dl : DSp} {st : Stmt} {p : Str}
    (hn : l.most = some n) (hn2 : n ≤ sizeLine) (hdf : d.params.defaults = []) (hr : Room k callerA) (hY : ∀ (w : PySem.World) (h : Heap), YP w h → (K w.params).In h)
    (DF : ∀ (w : PySem.World) (mg : Str → Option Value) (h : Heap), (K w.params).In h → h.Ns mainGlobals mg → ∀ base : Heap, (K w.params).In base → base.Ns mainGlobals mg → FS l.prog w (K w.params) mg base k d.name st [p] dl)
    (law : ∀ ns : List Int, ns.length ≤ n → dl [] [.lst (ns.map .int)] fun d _ => d = .bl true) : PySem.W.WalkO q loose XP YP l.row.toRowW d [] (fun f vs => PySem.call f vs) := by
  refine Att.attach_call hn hdf fun w s0 s1 mg mb fa o pm cd doc a vs ns G Y _ _ _ hmg hobj hints hlen hg => ?_
  exact ask_law (hY w _ Y) G.T.g G.T.b G.T.builtins G.T.nolimit hg hobj hints (Nat.le_trans hlen hn2) hr hmg (DF w mg _ (hY w _ Y) G.T.g) (law ns hlen)
end L3
namespace L3
open PySem PySem.Spec PyProof.Rows L2
/-! ### what a name of the module stands for, told by data -/
def GD (K : PySem.W.Frag) (mg : Str → Option Value) (x : Str) (d : D) : Prop := ∃ (u : Value) (y : V), mg x = some u ∧ RelV y u ∧ Rp K (fun _ => False) [] (fun _ => none) d y
theorem stb_empty {F : Addr → Prop} {m : List Addr} {H : Hp} : Stb (fun _ => False) [] (fun _ => none) F m H :=
  ⟨fun a xs h => (nomatch (show (none : Option HO) = some (HO.tup xs) from h)), fun a o xs h => (nomatch (show (none : Option HO) = some (HO.frz o (.tup xs)) from h)), fun a (h : False) => h.elim, m, rfl⟩
theorem q_gd {X : Cx} {c : Ctx} {x : Str} {pos : Pos} {d : D} (h : GD X.K X.mg x d) (hg : Gl X x := by rfl) (hdb : ND x := by decide) : PD X c (.Name x pos) (dC d) := by
  obtain ⟨u, y, hm, r, rp⟩ := h
  exact pd_glob hg hm r (fun F m H => Rp.stb stb_empty _ _ rp) hdb
section
variable {K : PySem.W.Frag} {mg : Str → Option Value} {x : Str}
theorem gd_int {i : Int} {u : Value} (h : mg x = some u) (e : ∃ t, u = .int i t) : GD K mg x (.int i) := ⟨u, .int i, h, e, by simp [Rp]⟩
theorem gd_str {z : Str} {u : Value} (h : mg x = some u) (e : ∃ t, u = .str z t) (hz : z.length ≤ 1000) : GD K mg x (.str z) := ⟨u, .str z, h, e, by simp only [Rp]; exact ⟨trivial, by rw [sizeLine_eq]; omega⟩⟩
/-- a plain value by its data -/
def atomD : Value → Option D
  | .str z _ => if z.length ≤ 1000 then some (.str z) else none
  | .int i _ => some (.int i)
  | .bool b => some (.bl b)
  | .none => some .non
  | _ => none
def atomsD : List Value → Option (List D)
  | [] => some []
  | v :: r => match atomD v, atomsD r with
    | some d, some ds => some (d :: ds)
    | _, _ => none
theorem atomD_ok {v : Value} {d : D} (h : atomD v = some d) : ∃ y, RelV y v ∧ Rp K (fun _ => False) [] (fun _ => none) d y := by
  unfold atomD at h
  split at h
  · rename_i z t
    split at h
    · rename_i hz
      cases h
      exact ⟨.str z, ⟨_, rfl⟩, by simp only [Rp]; exact ⟨trivial, by rw [sizeLine_eq]; omega⟩⟩
    · cases h
  · cases h; exact ⟨.int _, ⟨_, rfl⟩, by simp [Rp]⟩
  · cases h; exact ⟨.bl _, rfl, by simp [Rp]⟩
  · cases h; exact ⟨.non, rfl, by simp [Rp]⟩
  · cases h
theorem atomsD_ok : ∀ {vs : List Value} {ds : List D}, atomsD vs = some ds → ∃ ys, Vals ys vs ∧ Rps K (fun _ => False) [] (fun _ => none) ds ys
  | [], ds, h => by
    simp only [atomsD, Option.some.injEq] at h; subst h
    exact ⟨[], .nil, Rps.nil⟩
  | v :: r, ds, h => by
    simp only [atomsD] at h
    cases q1 : atomD v with
    | none => rw [q1] at h; cases h
    | some d =>
      cases q2 : atomsD r with
      | none => rw [q1, q2] at h; cases h
      | some es =>
        rw [q1, q2] at h; cases h
        obtain ⟨y, r1, p1⟩ := atomD_ok (K := K) q1
        obtain ⟨ys, r2, p2⟩ := atomsD_ok q2
        exact ⟨y :: ys, .cons r1 r2, Rps.cons p1 p2⟩
theorem gd_tup {ds : List D} {a : Addr} {its : Array Value} {n : Nat} {sl : Array (Option Value)} (h : mg x = some (.ref a)) (l : K.lookup a = some ⟨.type "tuple", none, .seq its n, sl⟩) (e : atomsD its.toList = some ds) (hz : its.size ≤ 1000) : GD K mg x (.tup ds) := by
  obtain ⟨ys, r, p⟩ := atomsD_ok (K := K) e
  exact ⟨.ref a, .ref a, h, rfl, by simp only [Rp]; exact ⟨a, ys, rfl, .inr ⟨_, its, n, l, rfl, rfl, rfl, by rw [sizeLine_eq]; omega, r⟩, p⟩⟩
end
/-! ### d.pop(k), there -/
def dropKs (ks : List Key) (k : Key) : List Key := ks.filter fun q => decide (q ≠ k)
def dropDs : List Key → List D → Key → List D
  | q :: ks, d :: ds, k => if q = k then dropDs ks ds k else d :: dropDs ks ds k
  | _, _, _ => []
def oDPop : DSp := fun M ds P => ∃ n b k ks es d, ds = [.obj n, b] ∧ M[n]? = some (.dic ks es) ∧ keyD b = some k ∧ getK ks es k = some d ∧ P d (M.set n (.dic (dropKs ks k) (dropDs ks es k)))
theorem drop_rps {K : PySem.W.Frag} {F : Addr → Prop} {m : List Addr} {H : Hp} {k : Key} : ∀ {kvs : List (Key × V)} {ds : List D}, Rps K F m H ds (kvs.map (·.2)) → Rps K F m H (dropDs (kvs.map (·.1)) ds k) ((dropK kvs k).map (·.2))
  | [], ds, h => by
    obtain rfl : ds = [] := by cases ds with | nil => rfl | cons d r => obtain ⟨_, _, e, _⟩ := Rps.cons_inv h; simp at e
    simp [dropK, dropDs, Rps]
  | p :: r, [], h => by have := h.length; simp at this
  | p :: r, d :: ds, h => by
    obtain ⟨x, y, e, h1, h2⟩ := Rps.cons_inv h
    simp only [List.map_cons, List.cons.injEq] at e
    obtain ⟨rfl, rfl⟩ := e
    have ih := drop_rps (k := k) h2
    unfold dropK at ih ⊢
    simp only [List.map_cons, dropDs]
    by_cases hk : p.1 = k
    · rw [if_pos hk, List.filter_cons_of_neg (by simp [hk])]; exact ih
    · rw [if_neg hk, List.filter_cons_of_pos (by simp [hk]), List.map_cons]; exact Rps.cons h1 ih
theorem drop_fst {kvs : List (Key × V)} {k : Key} : (dropK kvs k).map (·.1) = dropKs (kvs.map (·.1)) k := by
  unfold dropK dropKs
  rw [List.filter_map]; rfl
theorem op_dpop {X : Cx} : OpD X (fun us => call (.builtin "dict.pop") us) oDPop := fun pins s σ H F m M us vs ds P I rv g rp q => by
  obtain ⟨n, b, k, ks, es, d, rfl, hM, hk, hd, q⟩ := q
  obtain ⟨x, y, rfl, p1, p2⟩ := rps2 rp
  obtain ⟨u1, u2, rfl, r1, r2⟩ := vals2 rv
  obtain ⟨p, kvs, rfl, hm, hH, rfl, hr⟩ := g.objD p1 hM
  obtain rfl := rp_key p2 hk
  cases r1
  have hg := getK_valV (k := k) hr
  rw [hd] at hg
  obtain ⟨v, hv, rv⟩ := hg
  have hx : Ext F m H F m (upd H p (.dK (dropK kvs k))) := Ext.write g (List.mem_of_getElem? hm) (fun _ _ e => by rw [hH] at e; cases e)
  exact d_pop I hH r2 hv (.inl rfl) fun w' s' I' rw' => ⟨v, _, I', rw', d, _, F, m, q, hx, g.write hm (fun _ _ e => by rw [hH] at e; cases e) ⟨_, upd_same, drop_fst, Rps.ext g hx _ _ (drop_rps hr)⟩, Rp.ext g hx _ _ rv⟩
theorem oDPop_m {M : St3} {P : KD} {n : Nat} {b : D} : oDPop M [.obj n, b] P = (match M[n]?, keyD b with | some (.dic ks es), some k => (match getK ks es k with | some d => P d (M.set n (.dic (dropKs ks k) (dropDs ks es k))) | none => False) | _, _ => False) := by
  unfold oDPop
  cases h : M[n]? with
  | none => simp [h]
  | some o =>
    cases o with
    | lst _ => simp [h]
    | lck _ _ => simp [h]
    | dic ks es =>
      cases h2 : keyD b with
      | none => simp [h2]
      | some k =>
        simp only [h2, eq_iff_iff, List.cons.injEq, D.obj.injEq, and_true]
        cases h3 : getK ks es k with
        | none =>
          simp only [iff_false]
          rintro ⟨_, _, _, _, _, _, ⟨e1, e2⟩, q1, q2, q3, _⟩
          subst e1 e2
          rw [h] at q1; cases q1
          rw [h2] at q2; cases q2
          rw [h3] at q3; cases q3
        | some d =>
          constructor
          · rintro ⟨_, _, _, _, _, _, ⟨e1, e2⟩, q1, q2, q3, q4⟩
            subst e1 e2
            rw [h] at q1; cases q1
            rw [h2] at q2; cases q2
            rw [h3] at q3; cases q3
            exact q4
          · intro q
            exact ⟨_, _, _, _, _, _, ⟨rfl, rfl⟩, h, h2, h3, q⟩
end L3
namespace L3.K55
open PySem PySem.Spec PyProof.Rows L2
def top (i : Nat) : Stmt := PySem.Challenge.pw_allshelves_k55_whole_rows_done_to_pages.main.body.getD i (.Pass ⟨0, 0, 0, 0⟩)
abbrev s_is_integer : Stmt := top 9
abbrev s_is_between : Stmt := top 10
abbrev s_is_count : Stmt := top 11
abbrev s_is_name : Stmt := top 12
abbrev s_is_row : Stmt := top 13
abbrev s_is_one_of : Stmt := top 14
abbrev s_is_rising : Stmt := top 15
abbrev s_is_worth : Stmt := top 21
abbrev s_are_houses_of_deal : Stmt := top 22
abbrev s_is_row_value : Stmt := top 23
abbrev s_need_row : Stmt := top 24
abbrev s_page_number : Stmt := top 27
abbrev s_is_page : Stmt := top 28
abbrev s_are_pages_value : Stmt := top 29
abbrev s_need_pages : Stmt := top 30
abbrev s_are_rows_value : Stmt := top 31
abbrev s_no_pages : Stmt := top 32
abbrev s_done_one : Stmt := top 33
abbrev s_done_all : Stmt := top 34
abbrev s_all_worths : Stmt := top 35
abbrev s_worths_of_rows : Stmt := top 36
abbrev s_need_many : Stmt := top 38
abbrev s_need_rows : Stmt := top 39
abbrev s_are_pages : Stmt := top 40
abbrev s_empty_pages : Stmt := top 41
abbrev s_worths_on : Stmt := top 42
abbrev s_done : Stmt := top 43
abbrev s_all_done : Stmt := top 44
abbrev s_worths_by : Stmt := top 45
abbrev s_law_deck : Stmt := top 47
abbrev s_law_draw : Stmt := top 48
abbrev s_law_pick : Stmt := top 49
abbrev s_law_key : Stmt := top 50
abbrev s_law_worth : Stmt := top 51
abbrev s_law_deal : Stmt := top 52
abbrev s_law_row : Stmt := top 53
abbrev s_law_rows : Stmt := top 54
abbrev s_law_by_name : Stmt := top 55
abbrev s_law_place : Stmt := top 56
abbrev s_law_told_pages : Stmt := top 57
abbrev s_law_table : Stmt := top 58
abbrev s_law_do : Stmt := top 59
abbrev s_law_do_all : Stmt := top 60
abbrev s_law_worths : Stmt := top 61
abbrev s_law : Stmt := top 62
structure Tx (K : PySem.W.Frag) (mg : Str → Option Value) : Prop where
  n_all : mg "all" = none
  n_bool : mg "bool" = none
  n_dict : mg "dict" = none
  n_enumerate : mg "enumerate" = none
  n_int : mg "int" = none
  n_isinstance : mg "isinstance" = none
  n_len : mg "len" = none
  n_list : mg "list" = none
  n_max : mg "max" = none
  n_range : mg "range" = none
  n_repr : mg "repr" = none
  n_set : mg "set" = none
  n_sorted : mg "sorted" = none
  n_str : mg "str" = none
  n_sum : mg "sum" = none
  n_tuple : mg "tuple" = none
  n_zip : mg "zip" = none
  c_ENDS : GD K mg "ENDS" (.tup [.str "kept", .str "dropped"])
  c_HEADS : GD K mg "HEADS" (.tup [.str "begin", .str "read", .str "write", .str "undo", .str "mark", .str "end"])
  c_LETTERS : GD K mg "LETTERS" (.str "abcdefghijklmnopqrstuvwxyz")
  c_MOST_HOUSES : GD K mg "MOST_HOUSES" (.int (4))
  c_MOST_LETTERS : GD K mg "MOST_LETTERS" (.int (10))
  c_MOST_PAGES : GD K mg "MOST_PAGES" (.int (8))
  c_ROLES : GD K mg "ROLES" (.tup [.str "leader", .str "member"])
theorem kb_all_done_rows_pages : BindsK "all_done" s_all_done ["pages", "rows"] ["rows", "pages"] [1, 0] := fun _ _ _ _ _ _ us ws h1 h2 => by
  match us, (show us.length = 0 by simp at h1 h2; omega), ws, h2 with
  | [], _, [_, _], _ => rfl
theorem kb_done_row_number_pages : BindsK "done" s_done ["pages", "number", "row"] ["row", "number", "pages"] [2, 1, 0] := fun _ _ _ _ _ _ us ws h1 h2 => by
  match us, (show us.length = 0 by simp at h1 h2; omega), ws, h2 with
  | [], _, [_, _, _], _ => rfl
theorem kb_worths_by_rows : BindsK "worths_by" s_worths_by ["rows"] ["rows"] [0] := fun _ _ _ _ _ _ us ws h1 h2 => by
  match us, (show us.length = 0 by simp at h1 h2; omega), ws, h2 with
  | [], _, [_], _ => rfl
def N_is_integer : List Str := ["thing"]
def td_is_integer : TDS :=
 (sSeq (sRet (dAnd (dBlt oIsi (dCons (dVar 0) (dCons (dC (.raw (.ty "int"))) dNil))) (dNot (dBlt oIsi (dCons (dVar 0) (dCons (dC (.raw (.ty "bool"))) dNil))))))
 sNext)
def N_is_between : List Str := ["thing", "least", "most"]
def td_is_between (sp_is_integer : DSp) : TDS :=
 (sSeq (sRet (dAnd (dCall 1 sp_is_integer (dCons (dVar 0) dNil)) (dChain (oOrd .le) (oOrd .le) (dVar 1) (dVar 0) (dVar 2))))
 sNext)
def N_is_count : List Str := ["thing"]
def td_is_count (sp_is_integer : DSp) : TDS :=
 (sSeq (sRet (dAnd (dCall 1 sp_is_integer (dCons (dVar 0) dNil)) (dOp2 (oOrd .ge) (dVar 0) (dC (.int 0)))))
 sNext)
def N_is_name : List Str := ["thing", "sign"]
def td_is_name : TDS :=
 (sSeq (sRet (dAnd (dBlt oIsi (dCons (dVar 0) (dCons (dC (.raw (.ty "str"))) dNil))) (dAnd (dChain (oOrd .le) (oOrd .le) (dC (.int 1)) (dBlt oLen (dCons (dVar 0) dNil)) (dC (.int (10)))) (dBlt oAll (dCons (dLc false (dIter (dVar 0)) (gtName 1) dYes (dOp2 (oIn false) (dVar 1) (dC (.str "abcdefghijklmnopqrstuvwxyz"))) [1]) dNil)))))
 sNext)
def N_is_row : List Str := ["thing", "many"]
def td_is_row : TDS :=
 (sSeq (sRet (dAnd (dBlt oIsi (dCons (dVar 0) (dCons (dC (.raw (.ty "tuple"))) dNil))) (dOp2 oEq (dBlt oLen (dCons (dVar 0) dNil)) (dVar 1))))
 sNext)
def N_is_one_of : List Str := ["thing", "words"]
def td_is_one_of : TDS :=
 (sSeq (sRet (dAnd (dBlt oIsi (dCons (dVar 0) (dCons (dC (.raw (.ty "str"))) dNil))) (dOp2 (oIn false) (dVar 0) (dVar 1))))
 sNext)
def N_is_rising : List Str := ["some", "one", "other"]
def td_is_rising : TDS :=
 (sSeq (sRet (dBlt oAll (dCons (dLc false (dZip (dCons (dVar 0) (dCons (dSl false (dVar 0) (dPart (dC (.int 1))) dNoPart) dNil))) (gtTup 2 (gtCons (gtName 1) (gtCons (gtName 2) gtNil))) dYes (dOp2 (oOrd .lt) (dVar 1) (dVar 2)) [1, 2]) dNil)))
 sNext)
def N_is_worth : List Str := ["thing"]
def td_is_worth (sp_is_integer : DSp) : TDS :=
 (sSeq (sRet (dOr (dOp2 (oIsD false) (dVar 0) (dC .non)) (dCall 1 sp_is_integer (dCons (dVar 0) dNil))))
 sNext)
def N_are_houses_of_deal : List Str := ["thing", "house"]
def td_are_houses_of_deal (sp_is_between : DSp) : TDS :=
 (sSeq (sIf (dOrT (dNotT (dTru (dBlt oIsi (dCons (dVar 0) (dCons (dC (.raw (.ty "tuple"))) dNil))))) (dNotT (dTru (dChain (oOrd .le) (oOrd .le) (dC (.int 2)) (dBlt oLen (dCons (dVar 0) dNil)) (dC (.int (4))))))) (sSeq (sRet (dC (.bl false)))
 sNext) sNext)
 (sSeq (sRet (dAnd (dBlt oAll (dCons (dLc false (dIter (dVar 0)) (gtName 1) dYes (dCall 3 sp_is_between (dCons (dVar 1) (dCons (dC (.int 0)) (dCons (dOp2 oSub (dC (.int (4))) (dC (.int 1))) dNil)))) [1]) dNil)) (dOp2 oEq (dLenSet (dVar 0)) (dBlt oLen (dCons (dVar 0) dNil)))))
 sNext))
def N_is_row_value : List Str := ["thing", "head", "rest", "many", "worth"]
def td_is_row_value (sp_is_name sp_is_worth sp_is_one_of sp_are_houses_of_deal sp_is_count : DSp) : TDS :=
 (sSeq (sIf (dOrT (dNotT (dTru (dBlt oIsi (dCons (dVar 0) (dCons (dC (.raw (.ty "tuple"))) dNil))))) (dOrT (dTru (dOp2 (oOrd .lt) (dBlt oLen (dCons (dVar 0) dNil)) (dC (.int 3)))) (dOrT (dNotT (dTru (dCall 2 sp_is_one_of (dCons (dOp2 oIx (dVar 0) (dC (.int 0))) (dCons (dC (.tup [.str "begin", .str "read", .str "write", .str "undo", .str "mark", .str "end"])) dNil))))) (dNotT (dTru (dCall 1 sp_is_count (dCons (dOp2 oIx (dVar 0) (dC (.int 1))) dNil))))))) (sSeq (sRet (dC (.bl false)))
 sNext) sNext)
 (sSeq (sPar 1 2 (dCons (dOp2 oIx (dVar 0) (dC (.int 0))) (dCons (dSl false (dVar 0) (dPart (dC (.int 2))) dNoPart) dNil)))
 (sSeq (sIf (dTru (dOp2 oEq (dVar 1) (dC (.str "begin")))) (sSeq (sRet (dAnd (dOp2 oEq (dBlt oLen (dCons (dVar 2) dNil)) (dC (.int 2))) (dAnd (dCall 2 sp_is_one_of (dCons (dOp2 oIx (dVar 2) (dC (.int 0))) (dCons (dC (.tup [.str "leader", .str "member"])) dNil))) (dCall 1 sp_are_houses_of_deal (dCons (dOp2 oIx (dVar 2) (dC (.int 1))) dNil)))))
 sNext) sNext)
 (sSeq (sIf (dTru (dOp2 oEq (dVar 1) (dC (.str "end")))) (sSeq (sRet (dAnd (dOp2 oEq (dBlt oLen (dCons (dVar 2) dNil)) (dC (.int 1))) (dCall 2 sp_is_one_of (dCons (dOp2 oIx (dVar 2) (dC (.int 0))) (dCons (dC (.tup [.str "kept", .str "dropped"])) dNil)))))
 sNext) sNext)
 (sSeq (sAsg (dOp2 oIx (dDisp false [((dC (.str "read")), (dC (.int 0))), ((dC (.str "write")), (dC (.int 2))), ((dC (.str "undo")), (dC (.int 1))), ((dC (.str "mark")), (dC (.int 0)))]) (dVar 1)) (gtName 3))
 (sSeq (sRet (dAnd (dCall 1 sp_is_name (dCons (dOp2 oIx (dVar 2) (dC (.int 0))) dNil)) (dAnd (dOp2 oEq (dBlt oLen (dCons (dVar 2) dNil)) (dOp2 oAdd (dVar 3) (dC (.int 1)))) (dBlt oAll (dCons (dLc false (dIter (dSl false (dVar 2) (dPart (dC (.int 1))) dNoPart)) (gtName 4) dYes (dCall 1 sp_is_worth (dCons (dVar 4) dNil)) [4]) dNil)))))
 sNext))))))
def N_need_row : List Str := ["row"]
def td_need_row (sp_is_row_value : DSp) : TDS :=
 (sSeq (sIf (dNotT (dTru (dCall 1 sp_is_row_value (dCons (dVar 0) dNil)))) (sSeq sNever
 sNext) sNext)
 sNext)
def N_page_number : List Str := ["key", "many", "sign"]
def td_page_number : TDS :=
 (sSeq (sRet (dOp2 oMod (dBlt oSum (dCons (dLc false (dIter (dVar 0)) (gtName 2) dYes (dMeth "str" oSIndex (dC (.str "abcdefghijklmnopqrstuvwxyz")) (dCons (dVar 2) dNil)) [2]) dNil)) (dVar 1)))
 sNext)
def N_is_page : List Str := ["thing", "at", "many", "keys", "pair", "key", "worth"]
def td_is_page (sp_is_rising sp_page_number sp_is_row sp_is_name sp_is_integer sp_is_count : DSp) : TDS :=
 (sSeq (sIf (dOrT (dNotT (dTru (dCall 2 sp_is_row (dCons (dVar 0) (dCons (dC (.int 2)) dNil))))) (dOrT (dNotT (dTru (dCall 1 sp_is_count (dCons (dOp2 oIx (dVar 0) (dC (.int 0))) dNil)))) (dNotT (dTru (dBlt oIsi (dCons (dOp2 oIx (dVar 0) (dC (.int 1))) (dCons (dC (.raw (.ty "tuple"))) dNil))))))) (sSeq (sRet (dC (.bl false)))
 sNext) sNext)
 (sSeq (sIf (dNotT (dTru (dBlt oAll (dCons (dLc false (dIter (dOp2 oIx (dVar 0) (dC (.int 1)))) (gtName 4) dYes (dAnd (dCall 2 sp_is_row (dCons (dVar 4) (dCons (dC (.int 2)) dNil))) (dAnd (dCall 1 sp_is_name (dCons (dOp2 oIx (dVar 4) (dC (.int 0))) dNil)) (dCall 1 sp_is_integer (dCons (dOp2 oIx (dVar 4) (dC (.int 1))) dNil)))) [4]) dNil)))) (sSeq (sRet (dC (.bl false)))
 sNext) sNext)
 (sSeq (sAsg (dLc false (dIter (dOp2 oIx (dVar 0) (dC (.int 1)))) (gtTup 2 (gtCons (gtName 5) (gtCons (gtName 6) gtNil))) dYes (dVar 5) [5, 6]) (gtName 3))
 (sSeq (sRet (dAnd (dCall 1 sp_is_rising (dCons (dVar 3) dNil)) (dBlt oAll (dCons (dLc false (dIter (dVar 3)) (gtName 5) dYes (dOp2 oEq (dCall 2 sp_page_number (dCons (dVar 5) (dCons (dVar 2) dNil))) (dVar 1)) [5]) dNil))))
 sNext))))
def N_are_pages_value : List Str := ["thing", "at", "page"]
def td_are_pages_value (sp_is_page : DSp) : TDS :=
 (sSeq (sIf (dOrT (dNotT (dTru (dBlt oIsi (dCons (dVar 0) (dCons (dC (.raw (.ty "tuple"))) dNil))))) (dNotT (dTru (dChain (oOrd .le) (oOrd .le) (dC (.int 1)) (dBlt oLen (dCons (dVar 0) dNil)) (dC (.int (8))))))) (sSeq (sRet (dC (.bl false)))
 sNext) sNext)
 (sSeq (sRet (dBlt oAll (dCons (dLc false (dEnum (dCons (dVar 0) dNil)) (gtTup 2 (gtCons (gtName 1) (gtCons (gtName 2) gtNil))) dYes (dCall 3 sp_is_page (dCons (dVar 2) (dCons (dVar 1) (dCons (dBlt oLen (dCons (dVar 0) dNil)) dNil)))) [1, 2]) dNil)))
 sNext))
def N_need_pages : List Str := ["pages"]
def td_need_pages (sp_are_pages_value : DSp) : TDS :=
 (sSeq (sIf (dNotT (dTru (dCall 1 sp_are_pages_value (dCons (dVar 0) dNil)))) (sSeq sNever
 sNext) sNext)
 sNext)
def N_are_rows_value : List Str := ["thing", "row"]
def td_are_rows_value (sp_is_row_value : DSp) : TDS :=
 (sSeq (sRet (dAnd (dBlt oIsi (dCons (dVar 0) (dCons (dC (.raw (.ty "tuple"))) dNil))) (dBlt oAll (dCons (dLc false (dIter (dVar 0)) (gtName 1) dYes (dCall 1 sp_is_row_value (dCons (dVar 1) dNil)) [1]) dNil))))
 sNext)
def N_no_pages : List Str := ["many"]
def td_no_pages : TDS :=
 (sSeq (sRet (dOp2 oMul (dTup (dCons (dTup (dCons (dC (.int 0)) (dCons (dTup dNil) dNil))) dNil)) (dVar 0)))
 sNext)
def N_done_one : List Str := ["pages", "number", "row", "at", "worth", "last", "worths", "told", "page", "key", "own"]
def td_done_one (sp_page_number : DSp) : TDS :=
 (sSeq (sIf (dTru (dOp2 (oIn true) (dOp2 oIx (dVar 2) (dC (.int 0))) (dTup (dCons (dC (.str "write")) (dCons (dC (.str "undo")) dNil))))) (sSeq (sRet (dVar 0))
 sNext) sNext)
 (sSeq (sPar 3 4 (dCons (dCall 2 sp_page_number (dCons (dOp2 oIx (dVar 2) (dC (.int 2))) (dCons (dBlt oLen (dCons (dVar 0) dNil)) dNil))) (dCons (dOp2 oIx (dVar 2) (dUn oNeg (dC (.int 1)))) dNil)))
 (sSeq (sAsg (dOp2 oIx (dVar 0) (dVar 3)) (gtTup 2 (gtCons (gtName 5) (gtCons (gtName 6) gtNil))))
 (sSeq (sIf (dTru (dOp2 (oOrd .ge) (dVar 5) (dVar 1))) (sSeq (sRet (dVar 0))
 sNext) sNext)
 (sSeq (sAsg (dBlt (oToDic true) (dCons (dVar 6) dNil)) (gtName 7))
 (sSeq (sPut (dVar 7) (dOp2 oIx (dVar 2) (dC (.int 2))) (dVar 4))
 (sSeq (sAsg (dTup (dCons (dVar 1) (dCons (dBlt oToTup (dCons (dBlt (oSorted false) (dCons (dLc false (dItems (dVar 7)) (gtTup 2 (gtCons (gtName 9) (gtCons (gtName 10) gtNil))) (dTru (dOp2 (oIsD true) (dVar 10) (dC .non))) (dTup (dCons (dVar 9) (dCons (dVar 10) dNil))) [9, 10]) dNil)) dNil)) dNil))) (gtName 8))
 (sSeq (sRet (dOp2 oAdd (dOp2 oAdd (dSl false (dVar 0) dNoPart (dPart (dVar 3))) (dTup (dCons (dVar 8) dNil))) (dSl false (dVar 0) (dPart (dOp2 oAdd (dVar 3) (dC (.int 1)))) dNoPart)))
 sNext))))))))
def N_done_all : List Str := ["pages", "rows", "at", "row"]
def td_done_all (sp_done_one : DSp) : TDS :=
 (sSeq (sFor (dEnum (dCons (dVar 1) dNil)) (gtTup 2 (gtCons (gtName 2) (gtCons (gtName 3) gtNil))) (sSeq (sAsg (dCall 3 sp_done_one (dCons (dVar 0) (dCons (dOp2 oAdd (dVar 2) (dC (.int 1))) (dCons (dVar 3) dNil)))) (gtName 0))
 sNext))
 (sSeq (sRet (dVar 0))
 sNext))
def N_all_worths : List Str := ["pages", "last", "worths", "pair"]
def td_all_worths : TDS :=
 (sSeq (sRet (dBlt oToTup (dCons (dBlt (oSorted false) (dCons (dLc2 false (dIter (dVar 0)) (gtTup 2 (gtCons (gtName 1) (gtCons (gtName 2) gtNil))) dYes (dIter (dVar 2)) (gtName 3) dYes (dVar 3) [1, 2, 3] [3]) dNil)) dNil)))
 sNext)
def N_worths_of_rows : List Str := ["rows"]
def td_worths_of_rows (sp_all_worths sp_done_all sp_no_pages : DSp) : TDS :=
 (sSeq (sRet (dCall 1 sp_all_worths (dCons (dCall 2 sp_done_all (dCons (dCall 1 sp_no_pages (dCons (dC (.int 1)) dNil)) (dCons (dVar 0) dNil))) dNil)))
 sNext)
def N_need_many : List Str := ["many"]
def td_need_many (sp_is_between : DSp) : TDS :=
 (sSeq (sIf (dNotT (dTru (dCall 3 sp_is_between (dCons (dVar 0) (dCons (dC (.int 1)) (dCons (dC (.int (8))) dNil)))))) (sSeq sNever
 sNext) sNext)
 sNext)
def N_need_rows : List Str := ["rows"]
def td_need_rows (sp_are_rows_value : DSp) : TDS :=
 (sSeq (sIf (dNotT (dTru (dCall 1 sp_are_rows_value (dCons (dVar 0) dNil)))) (sSeq sNever
 sNext) sNext)
 sNext)
def N_are_pages : List Str := ["thing"]
def td_are_pages (sp_are_pages_value : DSp) : TDS :=
 (sSeq (sRet (dCall 1 sp_are_pages_value (dCons (dVar 0) dNil)))
 sNext)
def N_empty_pages : List Str := ["many"]
def td_empty_pages (sp_no_pages sp_need_many : DSp) : TDS :=
 (sSeq (sDrop (dCall 1 sp_need_many (dCons (dVar 0) dNil)))
 (sSeq (sRet (dCall 1 sp_no_pages (dCons (dVar 0) dNil)))
 sNext))
def N_worths_on : List Str := ["pages"]
def td_worths_on (sp_all_worths sp_need_pages : DSp) : TDS :=
 (sSeq (sDrop (dCall 1 sp_need_pages (dCons (dVar 0) dNil)))
 (sSeq (sRet (dCall 1 sp_all_worths (dCons (dVar 0) dNil)))
 sNext))
def N_done : List Str := ["pages", "number", "row"]
def td_done (sp_done_one sp_need_row sp_is_integer sp_need_pages : DSp) : TDS :=
 (sSeq (sDrop (dCall 1 sp_need_pages (dCons (dVar 0) dNil)))
 (sSeq (sIf (dOrT (dNotT (dTru (dCall 1 sp_is_integer (dCons (dVar 1) dNil)))) (dTru (dOp2 (oOrd .lt) (dVar 1) (dC (.int 1))))) (sSeq sNever
 sNext) sNext)
 (sSeq (sDrop (dCall 1 sp_need_row (dCons (dVar 2) dNil)))
 (sSeq (sRet (dCall 3 sp_done_one (dCons (dVar 0) (dCons (dVar 1) (dCons (dVar 2) dNil)))))
 sNext))))
def N_all_done : List Str := ["pages", "rows"]
def td_all_done (sp_done_all sp_need_rows sp_need_pages : DSp) : TDS :=
 (sSeq (sDrop (dCall 1 sp_need_pages (dCons (dVar 0) dNil)))
 (sSeq (sDrop (dCall 1 sp_need_rows (dCons (dVar 1) dNil)))
 (sSeq (sRet (dCall 2 sp_done_all (dCons (dVar 0) (dCons (dVar 1) dNil))))
 sNext)))
def N_worths_by : List Str := ["rows"]
def td_worths_by (sp_worths_of_rows sp_need_rows : DSp) : TDS :=
 (sSeq (sDrop (dCall 1 sp_need_rows (dCons (dVar 0) dNil)))
 (sSeq (sRet (dCall 1 sp_worths_of_rows (dCons (dVar 0) dNil)))
 sNext))
def N_law_deck : List Str := ["_law_script", "_law_mixed", "_law_cell"]
def td_law_deck : TDS :=
 (sSeq (sAsg (dC (.int 13753676)) (gtName 1))
 (sSeq (sFor (dIter (dSl false (dVar 0) dNoPart (dPart (dC (.int 63))))) (gtName 2) (sSeq (sAsg (dOp2 oMod (dBlt oToInt (dCons (dOp2 oAdd (dOp2 oAdd (dOp2 oMul (dVar 1) (dC (.int 69621))) (dOp2 oMod (dBlt oToInt (dCons (dVar 2) dNil)) (dC (.int 2147483629)))) (dC (.int 169))) dNil)) (dC (.int 2147483587))) (gtName 1))
 sNext))
 (sSeq (sRet (dDisp true [((dC (.str "cells")), (dRev true (dBlt (oToList false) (dCons (dSl false (dVar 0) dNoPart (dPart (dC (.int 63)))) dNil)))), ((dC (.str "mixed")), (dVar 1)), ((dC (.str "draws")), (dC (.int 0)))]))
 sNext)))
def N_law_draw : List Str := ["_law_deck_here", "_law_many", "_law_number", "_law_cell"]
def td_law_draw : TDS :=
 (sSeq (sPut (dVar 0) (dC (.str "draws")) (dOp2 oAdd (dOp2 oIx (dVar 0) (dC (.str "draws"))) (dC (.int 1))))
 (sSeq (sAsg (dOp2 oAdd (dOp2 oIx (dVar 0) (dC (.str "mixed"))) (dOp2 oMul (dC (.int 61473)) (dOp2 oIx (dVar 0) (dC (.str "draws"))))) (gtName 2))
 (sSeq (sIf (dTru (dOp2 oNe (dOp2 oIx (dVar 0) (dC (.str "cells"))) (dLst dNil))) (sSeq (sAsg (dMeth "list" oPop (dOp2 oIx (dVar 0) (dC (.str "cells"))) dNil) (gtName 3))
 (sSeq (sIf (dTru (dOp2 (oOrd .ge) (dVar 3) (dOp2 oPow (dC (.int 10)) (dC (.int 18))))) (sSeq (sDrop (dMeth "list" oAppend (dOp2 oIx (dVar 0) (dC (.str "cells"))) (dCons (dOp2 oFdiv (dVar 3) (dBlt oMax2 (dCons (dC (.int 2)) (dCons (dVar 1) dNil)))) dNil)))
 (sSeq (sRet (dOp2 oMod (dBlt oToInt (dCons (dVar 3) dNil)) (dVar 1)))
 sNext)) sNext)
 (sSeq (sAsg (dOp2 oAdd (dVar 2) (dOp2 oMod (dBlt oToInt (dCons (dVar 3) dNil)) (dC (.int 2147483629)))) (gtName 2))
 sNext))) sNext)
 (sSeq (sAsg (dOp2 oMod (dBlt oToInt (dCons (dOp2 oAdd (dOp2 oMul (dVar 2) (dC (.int 39373))) (dC (.int 169))) dNil)) (dC (.int 2147483647))) (gtName 2))
 (sSeq (sAsg (dOp2 oMod (dBlt oToInt (dCons (dOp2 oAdd (dOp2 oAdd (dOp2 oMul (dVar 2) (dVar 2)) (dOp2 oMul (dC (.int 52713)) (dOp2 oIx (dVar 0) (dC (.str "draws"))))) (dC (.int 367))) dNil)) (dC (.int 2147483587))) (gtName 2))
 (sSeq (sAsg (dOp2 oMod (dBlt oToInt (dCons (dOp2 oMul (dVar 2) (dC (.int 40692))) dNil)) (dC (.int 2147483563))) (gtName 2))
 (sSeq (sRet (dOp2 oMod (dBlt oToInt (dCons (dOp2 oFdiv (dVar 2) (dC (.int 64))) dNil)) (dVar 1)))
 sNext)))))))
def N_law_pick : List Str := ["_law_deck_here", "_law_some"]
def td_law_pick (sp_law_draw : DSp) : TDS :=
 (sSeq (sRet (dOp2 oIx (dVar 1) (dCall 2 sp_law_draw (dCons (dVar 0) (dCons (dBlt oLen (dCons (dVar 1) dNil)) dNil)))))
 sNext)
def N_law_key : List Str := ["_law_deck_here"]
def td_law_key (sp_law_pick : DSp) : TDS :=
 (sSeq (sRet (dCall 2 sp_law_pick (dCons (dVar 0) (dCons (dLst (dCons (dC (.str "a")) (dCons (dC (.str "b")) (dCons (dC (.str "ab")) (dCons (dC (.str "key")) (dCons (dC (.str "zz")) (dCons (dC (.str "abcdefghij")) (dCons (dC (.str "q")) (dCons (dC (.str "z")) dNil))))))))) dNil))))
 sNext)
def N_law_worth : List Str := ["_law_deck_here"]
def td_law_worth (sp_law_pick sp_law_draw : DSp) : TDS :=
 (sSeq (sRet (dCall 2 sp_law_pick (dCons (dVar 0) (dCons (dLst (dCons (dC (.int 0)) (dCons (dC (.int 1)) (dCons (dUn oNeg (dC (.int 1))) (dCons (dC .non) (dCons (dC (.int 7)) (dCons (dUn oNeg (dC (.int 20))) (dCons (dC (.int 999999999)) (dCons (dUn oNeg (dC (.int 999999999))) (dCons (dCall 2 sp_law_draw (dCons (dVar 0) (dCons (dC (.int 1000)) dNil))) dNil)))))))))) dNil))))
 sNext)
def N_law_deal : List Str := ["_law_deck_here"]
def td_law_deal (sp_law_pick sp_law_draw : DSp) : TDS :=
 (sSeq (sRet (dCall 2 sp_law_pick (dCons (dVar 0) (dCons (dLst (dCons (dC (.int 0)) (dCons (dC (.int 1)) (dCons (dC (.int 2)) (dCons (dC (.int 3)) (dCons (dC (.int 10)) (dCons (dC (.int 123456789)) (dCons (dCall 2 sp_law_draw (dCons (dVar 0) (dCons (dC (.int 100)) dNil))) dNil)))))))) dNil))))
 sNext)
def N_law_row : List Str := ["_law_deck_here", "_law_way", "_law_deal_here", "_law_some"]
def td_law_row (sp_law_pick sp_law_worth sp_law_key sp_law_deal sp_law_draw : DSp) : TDS :=
 (sSeq (sPar 1 2 (dCons (dCall 2 sp_law_draw (dCons (dVar 0) (dCons (dC (.int 8)) dNil))) (dCons (dCall 1 sp_law_deal (dCons (dVar 0) dNil)) dNil)))
 (sSeq (sIf (dTru (dOp2 oEq (dVar 1) (dC (.int 0)))) (sSeq (sAsg (dLst (dCons (dTup (dCons (dC (.int 0)) (dCons (dC (.int 1)) dNil))) (dCons (dTup (dCons (dC (.int 1)) (dCons (dC (.int 0)) (dCons (dC (.int 3)) dNil)))) (dCons (dTup (dCons (dC (.int 3)) (dCons (dC (.int 2)) (dCons (dC (.int 1)) (dCons (dC (.int 0)) dNil))))) (dCons (dTup (dCons (dC (.int 2)) (dCons (dC (.int 0)) dNil))) (dCons (dTup (dCons (dC (.int 0)) (dCons (dC (.int 1)) (dCons (dC (.int 2)) (dCons (dC (.int 3)) dNil))))) dNil)))))) (gtName 3))
 (sSeq (sRet (dTup (dCons (dC (.str "begin")) (dCons (dVar 2) (dCons (dCall 2 sp_law_pick (dCons (dVar 0) (dCons (dLst (dCons (dC (.str "leader")) (dCons (dC (.str "member")) dNil))) dNil))) (dCons (dCall 2 sp_law_pick (dCons (dVar 0) (dCons (dVar 3) dNil))) dNil))))))
 sNext)) sNext)
 (sSeq (sIf (dTru (dOp2 oEq (dVar 1) (dC (.int 1)))) (sSeq (sRet (dTup (dCons (dC (.str "read")) (dCons (dVar 2) (dCons (dCall 1 sp_law_key (dCons (dVar 0) dNil)) dNil)))))
 sNext) sNext)
 (sSeq (sIf (dTru (dOp2 (oOrd .lt) (dVar 1) (dC (.int 4)))) (sSeq (sRet (dTup (dCons (dC (.str "write")) (dCons (dVar 2) (dCons (dCall 1 sp_law_key (dCons (dVar 0) dNil)) (dCons (dCall 1 sp_law_worth (dCons (dVar 0) dNil)) (dCons (dCall 1 sp_law_worth (dCons (dVar 0) dNil)) dNil)))))))
 sNext) sNext)
 (sSeq (sIf (dTru (dOp2 oEq (dVar 1) (dC (.int 4)))) (sSeq (sRet (dTup (dCons (dC (.str "undo")) (dCons (dVar 2) (dCons (dCall 1 sp_law_key (dCons (dVar 0) dNil)) (dCons (dCall 1 sp_law_worth (dCons (dVar 0) dNil)) dNil))))))
 sNext) sNext)
 (sSeq (sIf (dTru (dOp2 (oOrd .lt) (dVar 1) (dC (.int 7)))) (sSeq (sRet (dTup (dCons (dC (.str "mark")) (dCons (dVar 2) (dCons (dCall 2 sp_law_pick (dCons (dVar 0) (dCons (dLst (dCons (dC (.str "kept")) (dCons (dC (.str "yes")) (dCons (dC (.str "ready")) (dCons (dC (.str "abcdefghij")) (dCons (dC (.str "m")) dNil)))))) dNil))) dNil)))))
 sNext) sNext)
 (sSeq (sRet (dTup (dCons (dC (.str "end")) (dCons (dVar 2) (dCons (dCall 2 sp_law_pick (dCons (dVar 0) (dCons (dLst (dCons (dC (.str "kept")) (dCons (dC (.str "dropped")) dNil))) dNil))) dNil)))))
 sNext)))))))
def N_law_rows : List Str := ["_law_deck_here", "_law_most", "_law_turn"]
def td_law_rows (sp_law_draw sp_law_row : DSp) : TDS :=
 (sSeq (sRet (dLc false (dRange1 (dCons (dCall 2 sp_law_draw (dCons (dVar 0) (dCons (dOp2 oAdd (dVar 1) (dC (.int 1))) dNil))) dNil)) (gtName 2) dYes (dCall 1 sp_law_row (dCons (dVar 0) dNil)) [2]))
 sNext)
def N_law_by_name : List Str := ["_law_deck_here"]
def td_law_by_name (sp_law_draw : DSp) : TDS :=
 (sSeq (sRet (dOp2 oEq (dCall 2 sp_law_draw (dCons (dVar 0) (dCons (dC (.int 2)) dNil))) (dC (.int 0))))
 sNext)
def N_law_place : List Str := ["_law_key_here", "_law_many", "_law_letters", "_law_x"]
def td_law_place : TDS :=
 (sSeq (sAsg (dC (.str "abcdefghijklmnopqrstuvwxyz")) (gtName 2))
 (sSeq (sRet (dOp2 oMod (dBlt oToInt (dCons (dBlt oSum (dCons (dLc false (dIter (dVar 0)) (gtName 3) dYes (dMeth "str" oSIndex (dVar 2) (dCons (dVar 3) dNil)) [3]) dNil)) dNil)) (dVar 1)))
 sNext))
def N_law_told_pages : List Str := ["_law_table_here", "_law_last", "_law_worths_here", "_law_key_here"]
def td_law_told_pages : TDS :=
 (sSeq (sRet (dBlt oToTup (dCons (dLc false (dIter (dVar 0)) (gtTup 2 (gtCons (gtName 1) (gtCons (gtName 2) gtNil))) dYes (dTup (dCons (dVar 1) (dCons (dBlt oToTup (dCons (dLc false (dIter (dBlt (oSorted false) (dCons (dVar 2) dNil))) (gtName 3) dYes (dTup (dCons (dVar 3) (dCons (dOp2 oIx (dVar 2) (dVar 3)) dNil))) [3]) dNil)) dNil))) [1, 2]) dNil)))
 sNext)
def N_law_table : List Str := ["_law_many", "_law_at"]
def td_law_table : TDS :=
 (sSeq (sRet (dLc true (dRange1 (dCons (dVar 0) dNil)) (gtName 1) dYes (dTup (dCons (dC (.int 0)) (dCons (dDic0 false) dNil))) [1]))
 sNext)
def N_law_do : List Str := ["_law_table_here", "_law_number", "_law_row_here", "_law_at", "_law_last", "_law_worths_here", "_law_near"]
def td_law_do (sp_law_place : DSp) : TDS :=
 (sSeq (sIf (dTru (dOp2 (oIn false) (dOp2 oIx (dVar 2) (dC (.int 0))) (dTup (dCons (dC (.str "write")) (dCons (dC (.str "undo")) dNil))))) (sSeq (sAsg (dCall 2 sp_law_place (dCons (dOp2 oIx (dVar 2) (dC (.int 2))) (dCons (dBlt oLen (dCons (dVar 0) dNil)) dNil))) (gtName 3))
 (sSeq (sAsg (dOp2 oIx (dVar 0) (dVar 3)) (gtTup 2 (gtCons (gtName 4) (gtCons (gtName 5) gtNil))))
 (sSeq (sIf (dTru (dOp2 (oOrd .lt) (dVar 4) (dVar 1))) (sSeq (sAsg (dBlt (oToDic true) (dCons (dVar 5) dNil)) (gtName 6))
 (sSeq (sPut (dVar 6) (dOp2 oIx (dVar 2) (dC (.int 2))) (dOp2 oIx (dVar 2) (dUn oNeg (dC (.int 1)))))
 (sSeq (sIf (dTru (dOp2 (oIsD false) (dOp2 oIx (dVar 2) (dUn oNeg (dC (.int 1)))) (dC .non))) (sSeq (sDrop (dMeth "dict" oDPop (dVar 6) (dCons (dOp2 oIx (dVar 2) (dC (.int 2))) dNil)))
 sNext) sNext)
 (sSeq (sPut (dVar 0) (dVar 3) (dTup (dCons (dVar 1) (dCons (dVar 6) dNil))))
 sNext)))) sNext)
 sNext))) sNext)
 sNext)
def N_law_do_all : List Str := ["_law_table_here", "_law_rows_here", "_law_at", "_law_row_here"]
def td_law_do_all (sp_law_do : DSp) : TDS :=
 (sSeq (sFor (dEnum (dCons (dVar 1) dNil)) (gtTup 2 (gtCons (gtName 2) (gtCons (gtName 3) gtNil))) (sSeq (sDrop (dCall 3 sp_law_do (dCons (dVar 0) (dCons (dOp2 oAdd (dVar 2) (dC (.int 1))) (dCons (dVar 3) dNil)))))
 sNext))
 (sSeq (sRet (dVar 0))
 sNext))
def N_law_worths : List Str := ["_law_rows_here", "_law_found", "_law_row_here", "_law_key_here"]
def td_law_worths : TDS :=
 (sSeq (sAsg (dDic0 true) (gtName 1))
 (sSeq (sFor (dIter (dVar 0)) (gtName 2) (sSeq (sIf (dTru (dOp2 (oIn false) (dOp2 oIx (dVar 2) (dC (.int 0))) (dTup (dCons (dC (.str "write")) (dCons (dC (.str "undo")) dNil))))) (sSeq (sPut (dVar 1) (dOp2 oIx (dVar 2) (dC (.int 2))) (dOp2 oIx (dVar 2) (dUn oNeg (dC (.int 1)))))
 sNext) sNext)
 sNext))
 (sSeq (sRet (dBlt oToTup (dCons (dLc false (dIter (dBlt (oSorted false) (dCons (dVar 1) dNil))) (gtName 3) (dTru (dOp2 (oIsD true) (dOp2 oIx (dVar 1) (dVar 3)) (dC .non))) (dTup (dCons (dVar 3) (dCons (dOp2 oIx (dVar 1) (dVar 3)) dNil))) [3]) dNil)))
 sNext)))
def N_law : List Str := ["_law_script", "_law_deck_here", "_law_turn", "_law_rows_here", "_law_many", "_law_due", "_law_told", "_law_worths_here", "_law_table_here", "_law_pages", "_law_go", "_law_row_here", "_law_number", "_law_near", "_law_more"]
def td_law (sp_all_done sp_law_told_pages sp_law_do_all sp_law_rows sp_law_by_name sp_done sp_law_do sp_law_pick sp_law_draw sp_law_row sp_law_table sp_worths_on sp_worths_by sp_law_worths sp_are_pages sp_empty_pages sp_law_deck : DSp) : TDS :=
 (sSeq (sAsg (dCall 1 sp_law_deck (dCons (dVar 0) dNil)) (gtName 1))
 (sSeq (sFor (dRange1 (dCons (dC (.int 3)) dNil)) (gtName 2) (sSeq (sPar 3 4 (dCons (dCall 2 sp_law_rows (dCons (dVar 1) (dCons (dC (.int 20)) dNil))) (dCons (dOp2 oAdd (dC (.int 1)) (dCall 2 sp_law_draw (dCons (dVar 1) (dCons (dC (.int 8)) dNil)))) dNil)))
 (sSeq (sAsg (dCall 1 sp_law_told_pages (dCons (dCall 2 sp_law_do_all (dCons (dCall 1 sp_law_table (dCons (dVar 4) dNil)) (dCons (dVar 3) dNil))) dNil)) (gtName 5))
 (sSeq (sAsg (dCall 2 sp_all_done (dCons (dCall 1 sp_empty_pages (dCons (dVar 4) dNil)) (dCons (dBlt oToTup (dCons (dVar 3) dNil)) dNil))) (gtName 6))
 (sSeq (sIf (dOrT (dTru (dOp2 oNe (dBlt oRepr (dCons (dTup (dCons (dVar 6) (dCons (dCallK 2 2 [1, 0] sp_all_done dNil (dCons (dBlt oToTup (dCons (dVar 3) dNil)) (dCons (dOp2 oMul (dTup (dCons (dTup (dCons (dC (.int 0)) (dCons (dTup dNil) dNil))) dNil)) (dVar 4)) dNil))) dNil))) dNil)) (dBlt oRepr (dCons (dTup (dCons (dVar 5) (dCons (dVar 5) dNil))) dNil)))) (dTru (dOp2 (oIsD true) (dCall 1 sp_are_pages (dCons (dVar 6) dNil)) (dC (.bl true))))) (sSeq (sRet (dC (.bl false)))
 sNext) sNext)
 (sSeq (sAsg (dCall 1 sp_law_worths (dCons (dVar 3) dNil)) (gtName 7))
 (sSeq (sIf (dTru (dOp2 oNe (dBlt oRepr (dCons (dTup (dCons (dCall 1 sp_worths_by (dCons (dBlt oToTup (dCons (dVar 3) dNil)) dNil)) (dCons (dCallK 1 1 [0] sp_worths_by dNil (dCons (dBlt oToTup (dCons (dVar 3) dNil)) dNil)) (dCons (dCall 1 sp_worths_on (dCons (dVar 6) dNil)) dNil)))) dNil)) (dBlt oRepr (dCons (dOp2 oMul (dTup (dCons (dVar 7) dNil)) (dC (.int 3))) dNil)))) (sSeq (sRet (dC (.bl false)))
 sNext) sNext)
 (sSeq (sAsg (dCall 2 sp_law_do_all (dCons (dCall 1 sp_law_table (dCons (dVar 4) dNil)) (dCons (dVar 3) dNil))) (gtName 8))
 (sSeq (sAsg (dVar 5) (gtName 9))
 (sSeq (sFor (dRange1 (dCons (dC (.int 5)) dNil)) (gtName 10) (sSeq (sPar 11 12 (dCons (dCall 1 sp_law_row (dCons (dVar 1) dNil)) (dCons (dCall 2 sp_law_pick (dCons (dVar 1) (dCons (dLst (dCons (dC (.int 1)) (dCons (dBlt oLen (dCons (dVar 3) dNil)) (dCons (dOp2 oAdd (dBlt oLen (dCons (dVar 3) dNil)) (dC (.int 1))) (dCons (dOp2 oAdd (dC (.int 1)) (dCall 2 sp_law_draw (dCons (dVar 1) (dCons (dC (.int 25)) dNil)))) dNil))))) dNil))) dNil)))
 (sSeq (sIf (dTru (dOp2 (oOrd .lt) (dVar 12) (dC (.int 1)))) (sSeq sCont
 sNext) sNext)
 (sSeq (sDrop (dCall 3 sp_law_do (dCons (dVar 8) (dCons (dVar 12) (dCons (dVar 11) dNil)))))
 (sSeq (sAsg (dIf (dTru (dCall 1 sp_law_by_name (dCons (dVar 1) dNil))) (dCall 3 sp_done (dCons (dVar 9) (dCons (dVar 12) (dCons (dVar 11) dNil)))) (dCallK 3 3 [2, 1, 0] sp_done dNil (dCons (dVar 11) (dCons (dVar 12) (dCons (dVar 9) dNil))))) (gtName 13))
 (sSeq (sIf (dTru (dOp2 oNe (dBlt oRepr (dCons (dVar 13) dNil)) (dBlt oRepr (dCons (dCall 1 sp_law_told_pages (dCons (dVar 8) dNil)) dNil)))) (sSeq (sRet (dC (.bl false)))
 sNext) sNext)
 (sSeq (sAsg (dVar 13) (gtName 9))
 sNext)))))))
 (sSeq (sAsg (dBlt oToTup (dCons (dCall 2 sp_law_rows (dCons (dVar 1) (dCons (dC (.int 8)) dNil))) dNil)) (gtName 14))
 (sSeq (sIf (dTru (dOp2 oNe (dBlt oRepr (dCons (dCall 2 sp_all_done (dCons (dVar 9) (dCons (dVar 14) dNil))) dNil)) (dBlt oRepr (dCons (dCall 1 sp_law_told_pages (dCons (dCall 2 sp_law_do_all (dCons (dVar 8) (dCons (dVar 14) dNil))) dNil)) dNil)))) (sSeq (sRet (dC (.bl false)))
 sNext) sNext)
 sNext))))))))))))
 (sSeq (sRet (dC (.bl true)))
 sNext)))
section
variable {P : Program} {w : PySem.World} {K : PySem.W.Frag} {mg : Str → Option Value} {base : Heap}
theorem b_is_integer : BindsF "is_integer" s_is_integer ["thing"] := fun _ _ _ _ _ _ us hl => by
  match us, hl with
  | [_], _ => rfl
theorem sc_is_integer : FnScope N_is_integer ["thing"] (defScope s_is_integer) := ⟨rfl, rfl, rfl, by decide +kernel, rfl, by decide +kernel, by decide +kernel⟩
theorem b_is_between : BindsF "is_between" s_is_between ["thing", "least", "most"] := fun _ _ _ _ _ _ us hl => by
  match us, hl with
  | [_, _, _], _ => rfl
theorem sc_is_between : FnScope N_is_between ["thing", "least", "most"] (defScope s_is_between) := ⟨rfl, rfl, rfl, by decide +kernel, rfl, by decide +kernel, by decide +kernel⟩
theorem b_is_count : BindsF "is_count" s_is_count ["thing"] := fun _ _ _ _ _ _ us hl => by
  match us, hl with
  | [_], _ => rfl
theorem sc_is_count : FnScope N_is_count ["thing"] (defScope s_is_count) := ⟨rfl, rfl, rfl, by decide +kernel, rfl, by decide +kernel, by decide +kernel⟩
theorem b_is_name : BindsF "is_name" s_is_name ["thing"] := fun _ _ _ _ _ _ us hl => by
  match us, hl with
  | [_], _ => rfl
theorem sc_is_name : FnScope N_is_name ["thing"] (defScope s_is_name) := ⟨rfl, rfl, rfl, by decide +kernel, rfl, by decide +kernel, by decide +kernel⟩
theorem b_is_row : BindsF "is_row" s_is_row ["thing", "many"] := fun _ _ _ _ _ _ us hl => by
  match us, hl with
  | [_, _], _ => rfl
theorem sc_is_row : FnScope N_is_row ["thing", "many"] (defScope s_is_row) := ⟨rfl, rfl, rfl, by decide +kernel, rfl, by decide +kernel, by decide +kernel⟩
theorem b_is_one_of : BindsF "is_one_of" s_is_one_of ["thing", "words"] := fun _ _ _ _ _ _ us hl => by
  match us, hl with
  | [_, _], _ => rfl
theorem sc_is_one_of : FnScope N_is_one_of ["thing", "words"] (defScope s_is_one_of) := ⟨rfl, rfl, rfl, by decide +kernel, rfl, by decide +kernel, by decide +kernel⟩
theorem b_is_rising : BindsF "is_rising" s_is_rising ["some"] := fun _ _ _ _ _ _ us hl => by
  match us, hl with
  | [_], _ => rfl
theorem sc_is_rising : FnScope N_is_rising ["some"] (defScope s_is_rising) := ⟨rfl, rfl, rfl, by decide +kernel, rfl, by decide +kernel, by decide +kernel⟩
theorem b_is_worth : BindsF "is_worth" s_is_worth ["thing"] := fun _ _ _ _ _ _ us hl => by
  match us, hl with
  | [_], _ => rfl
theorem sc_is_worth : FnScope N_is_worth ["thing"] (defScope s_is_worth) := ⟨rfl, rfl, rfl, by decide +kernel, rfl, by decide +kernel, by decide +kernel⟩
theorem b_are_houses_of_deal : BindsF "are_houses_of_deal" s_are_houses_of_deal ["thing"] := fun _ _ _ _ _ _ us hl => by
  match us, hl with
  | [_], _ => rfl
theorem sc_are_houses_of_deal : FnScope N_are_houses_of_deal ["thing"] (defScope s_are_houses_of_deal) := ⟨rfl, rfl, rfl, by decide +kernel, rfl, by decide +kernel, by decide +kernel⟩
theorem b_is_row_value : BindsF "is_row_value" s_is_row_value ["thing"] := fun _ _ _ _ _ _ us hl => by
  match us, hl with
  | [_], _ => rfl
theorem sc_is_row_value : FnScope N_is_row_value ["thing"] (defScope s_is_row_value) := ⟨rfl, rfl, rfl, by decide +kernel, rfl, by decide +kernel, by decide +kernel⟩
theorem b_need_row : BindsF "need_row" s_need_row ["row"] := fun _ _ _ _ _ _ us hl => by
  match us, hl with
  | [_], _ => rfl
theorem sc_need_row : FnScope N_need_row ["row"] (defScope s_need_row) := ⟨rfl, rfl, rfl, by decide +kernel, rfl, by decide +kernel, by decide +kernel⟩
theorem b_page_number : BindsF "page_number" s_page_number ["key", "many"] := fun _ _ _ _ _ _ us hl => by
  match us, hl with
  | [_, _], _ => rfl
theorem sc_page_number : FnScope N_page_number ["key", "many"] (defScope s_page_number) := ⟨rfl, rfl, rfl, by decide +kernel, rfl, by decide +kernel, by decide +kernel⟩
theorem b_is_page : BindsF "is_page" s_is_page ["thing", "at", "many"] := fun _ _ _ _ _ _ us hl => by
  match us, hl with
  | [_, _, _], _ => rfl
theorem sc_is_page : FnScope N_is_page ["thing", "at", "many"] (defScope s_is_page) := ⟨rfl, rfl, rfl, by decide +kernel, rfl, by decide +kernel, by decide +kernel⟩
theorem b_are_pages_value : BindsF "are_pages_value" s_are_pages_value ["thing"] := fun _ _ _ _ _ _ us hl => by
  match us, hl with
  | [_], _ => rfl
theorem sc_are_pages_value : FnScope N_are_pages_value ["thing"] (defScope s_are_pages_value) := ⟨rfl, rfl, rfl, by decide +kernel, rfl, by decide +kernel, by decide +kernel⟩
theorem b_need_pages : BindsF "need_pages" s_need_pages ["pages"] := fun _ _ _ _ _ _ us hl => by
  match us, hl with
  | [_], _ => rfl
theorem sc_need_pages : FnScope N_need_pages ["pages"] (defScope s_need_pages) := ⟨rfl, rfl, rfl, by decide +kernel, rfl, by decide +kernel, by decide +kernel⟩
theorem b_are_rows_value : BindsF "are_rows_value" s_are_rows_value ["thing"] := fun _ _ _ _ _ _ us hl => by
  match us, hl with
  | [_], _ => rfl
theorem sc_are_rows_value : FnScope N_are_rows_value ["thing"] (defScope s_are_rows_value) := ⟨rfl, rfl, rfl, by decide +kernel, rfl, by decide +kernel, by decide +kernel⟩
theorem b_no_pages : BindsF "no_pages" s_no_pages ["many"] := fun _ _ _ _ _ _ us hl => by
  match us, hl with
  | [_], _ => rfl
theorem sc_no_pages : FnScope N_no_pages ["many"] (defScope s_no_pages) := ⟨rfl, rfl, rfl, by decide +kernel, rfl, by decide +kernel, by decide +kernel⟩
theorem b_done_one : BindsF "done_one" s_done_one ["pages", "number", "row"] := fun _ _ _ _ _ _ us hl => by
  match us, hl with
  | [_, _, _], _ => rfl
theorem sc_done_one : FnScope N_done_one ["pages", "number", "row"] (defScope s_done_one) := ⟨rfl, rfl, rfl, by decide +kernel, rfl, by decide +kernel, by decide +kernel⟩
theorem b_done_all : BindsF "done_all" s_done_all ["pages", "rows"] := fun _ _ _ _ _ _ us hl => by
  match us, hl with
  | [_, _], _ => rfl
theorem sc_done_all : FnScope N_done_all ["pages", "rows"] (defScope s_done_all) := ⟨rfl, rfl, rfl, by decide +kernel, rfl, by decide +kernel, by decide +kernel⟩
theorem b_all_worths : BindsF "all_worths" s_all_worths ["pages"] := fun _ _ _ _ _ _ us hl => by
  match us, hl with
  | [_], _ => rfl
theorem sc_all_worths : FnScope N_all_worths ["pages"] (defScope s_all_worths) := ⟨rfl, rfl, rfl, by decide +kernel, rfl, by decide +kernel, by decide +kernel⟩
theorem b_worths_of_rows : BindsF "worths_of_rows" s_worths_of_rows ["rows"] := fun _ _ _ _ _ _ us hl => by
  match us, hl with
  | [_], _ => rfl
theorem sc_worths_of_rows : FnScope N_worths_of_rows ["rows"] (defScope s_worths_of_rows) := ⟨rfl, rfl, rfl, by decide +kernel, rfl, by decide +kernel, by decide +kernel⟩
theorem b_need_many : BindsF "need_many" s_need_many ["many"] := fun _ _ _ _ _ _ us hl => by
  match us, hl with
  | [_], _ => rfl
theorem sc_need_many : FnScope N_need_many ["many"] (defScope s_need_many) := ⟨rfl, rfl, rfl, by decide +kernel, rfl, by decide +kernel, by decide +kernel⟩
theorem b_need_rows : BindsF "need_rows" s_need_rows ["rows"] := fun _ _ _ _ _ _ us hl => by
  match us, hl with
  | [_], _ => rfl
theorem sc_need_rows : FnScope N_need_rows ["rows"] (defScope s_need_rows) := ⟨rfl, rfl, rfl, by decide +kernel, rfl, by decide +kernel, by decide +kernel⟩
theorem b_are_pages : BindsF "are_pages" s_are_pages ["thing"] := fun _ _ _ _ _ _ us hl => by
  match us, hl with
  | [_], _ => rfl
theorem sc_are_pages : FnScope N_are_pages ["thing"] (defScope s_are_pages) := ⟨rfl, rfl, rfl, by decide +kernel, rfl, by decide +kernel, by decide +kernel⟩
theorem b_empty_pages : BindsF "empty_pages" s_empty_pages ["many"] := fun _ _ _ _ _ _ us hl => by
  match us, hl with
  | [_], _ => rfl
theorem sc_empty_pages : FnScope N_empty_pages ["many"] (defScope s_empty_pages) := ⟨rfl, rfl, rfl, by decide +kernel, rfl, by decide +kernel, by decide +kernel⟩
theorem b_worths_on : BindsF "worths_on" s_worths_on ["pages"] := fun _ _ _ _ _ _ us hl => by
  match us, hl with
  | [_], _ => rfl
theorem sc_worths_on : FnScope N_worths_on ["pages"] (defScope s_worths_on) := ⟨rfl, rfl, rfl, by decide +kernel, rfl, by decide +kernel, by decide +kernel⟩
theorem b_done : BindsF "done" s_done ["pages", "number", "row"] := fun _ _ _ _ _ _ us hl => by
  match us, hl with
  | [_, _, _], _ => rfl
theorem sc_done : FnScope N_done ["pages", "number", "row"] (defScope s_done) := ⟨rfl, rfl, rfl, by decide +kernel, rfl, by decide +kernel, by decide +kernel⟩
theorem b_all_done : BindsF "all_done" s_all_done ["pages", "rows"] := fun _ _ _ _ _ _ us hl => by
  match us, hl with
  | [_, _], _ => rfl
theorem sc_all_done : FnScope N_all_done ["pages", "rows"] (defScope s_all_done) := ⟨rfl, rfl, rfl, by decide +kernel, rfl, by decide +kernel, by decide +kernel⟩
theorem b_worths_by : BindsF "worths_by" s_worths_by ["rows"] := fun _ _ _ _ _ _ us hl => by
  match us, hl with
  | [_], _ => rfl
theorem sc_worths_by : FnScope N_worths_by ["rows"] (defScope s_worths_by) := ⟨rfl, rfl, rfl, by decide +kernel, rfl, by decide +kernel, by decide +kernel⟩
theorem b_law_deck : BindsF "_law_deck" s_law_deck ["_law_script"] := fun _ _ _ _ _ _ us hl => by
  match us, hl with
  | [_], _ => rfl
theorem sc_law_deck : FnScope N_law_deck ["_law_script"] (defScope s_law_deck) := ⟨rfl, rfl, rfl, by decide +kernel, rfl, by decide +kernel, by decide +kernel⟩
theorem b_law_draw : BindsF "_law_draw" s_law_draw ["_law_deck_here", "_law_many"] := fun _ _ _ _ _ _ us hl => by
  match us, hl with
  | [_, _], _ => rfl
theorem sc_law_draw : FnScope N_law_draw ["_law_deck_here", "_law_many"] (defScope s_law_draw) := ⟨rfl, rfl, rfl, by decide +kernel, rfl, by decide +kernel, by decide +kernel⟩
theorem b_law_pick : BindsF "_law_pick" s_law_pick ["_law_deck_here", "_law_some"] := fun _ _ _ _ _ _ us hl => by
  match us, hl with
  | [_, _], _ => rfl
theorem sc_law_pick : FnScope N_law_pick ["_law_deck_here", "_law_some"] (defScope s_law_pick) := ⟨rfl, rfl, rfl, by decide +kernel, rfl, by decide +kernel, by decide +kernel⟩
theorem b_law_key : BindsF "_law_key" s_law_key ["_law_deck_here"] := fun _ _ _ _ _ _ us hl => by
  match us, hl with
  | [_], _ => rfl
theorem sc_law_key : FnScope N_law_key ["_law_deck_here"] (defScope s_law_key) := ⟨rfl, rfl, rfl, by decide +kernel, rfl, by decide +kernel, by decide +kernel⟩
theorem b_law_worth : BindsF "_law_worth" s_law_worth ["_law_deck_here"] := fun _ _ _ _ _ _ us hl => by
  match us, hl with
  | [_], _ => rfl
theorem sc_law_worth : FnScope N_law_worth ["_law_deck_here"] (defScope s_law_worth) := ⟨rfl, rfl, rfl, by decide +kernel, rfl, by decide +kernel, by decide +kernel⟩
theorem b_law_deal : BindsF "_law_deal" s_law_deal ["_law_deck_here"] := fun _ _ _ _ _ _ us hl => by
  match us, hl with
  | [_], _ => rfl
theorem sc_law_deal : FnScope N_law_deal ["_law_deck_here"] (defScope s_law_deal) := ⟨rfl, rfl, rfl, by decide +kernel, rfl, by decide +kernel, by decide +kernel⟩
theorem b_law_row : BindsF "_law_row" s_law_row ["_law_deck_here"] := fun _ _ _ _ _ _ us hl => by
  match us, hl with
  | [_], _ => rfl
theorem sc_law_row : FnScope N_law_row ["_law_deck_here"] (defScope s_law_row) := ⟨rfl, rfl, rfl, by decide +kernel, rfl, by decide +kernel, by decide +kernel⟩
theorem b_law_rows : BindsF "_law_rows" s_law_rows ["_law_deck_here", "_law_most"] := fun _ _ _ _ _ _ us hl => by
  match us, hl with
  | [_, _], _ => rfl
theorem sc_law_rows : FnScope N_law_rows ["_law_deck_here", "_law_most"] (defScope s_law_rows) := ⟨rfl, rfl, rfl, by decide +kernel, rfl, by decide +kernel, by decide +kernel⟩
theorem b_law_by_name : BindsF "_law_by_name" s_law_by_name ["_law_deck_here"] := fun _ _ _ _ _ _ us hl => by
  match us, hl with
  | [_], _ => rfl
theorem sc_law_by_name : FnScope N_law_by_name ["_law_deck_here"] (defScope s_law_by_name) := ⟨rfl, rfl, rfl, by decide +kernel, rfl, by decide +kernel, by decide +kernel⟩
theorem b_law_place : BindsF "_law_place" s_law_place ["_law_key_here", "_law_many"] := fun _ _ _ _ _ _ us hl => by
  match us, hl with
  | [_, _], _ => rfl
theorem sc_law_place : FnScope N_law_place ["_law_key_here", "_law_many"] (defScope s_law_place) := ⟨rfl, rfl, rfl, by decide +kernel, rfl, by decide +kernel, by decide +kernel⟩
theorem b_law_told_pages : BindsF "_law_told_pages" s_law_told_pages ["_law_table_here"] := fun _ _ _ _ _ _ us hl => by
  match us, hl with
  | [_], _ => rfl
theorem sc_law_told_pages : FnScope N_law_told_pages ["_law_table_here"] (defScope s_law_told_pages) := ⟨rfl, rfl, rfl, by decide +kernel, rfl, by decide +kernel, by decide +kernel⟩
theorem b_law_table : BindsF "_law_table" s_law_table ["_law_many"] := fun _ _ _ _ _ _ us hl => by
  match us, hl with
  | [_], _ => rfl
theorem sc_law_table : FnScope N_law_table ["_law_many"] (defScope s_law_table) := ⟨rfl, rfl, rfl, by decide +kernel, rfl, by decide +kernel, by decide +kernel⟩
theorem b_law_do : BindsF "_law_do" s_law_do ["_law_table_here", "_law_number", "_law_row_here"] := fun _ _ _ _ _ _ us hl => by
  match us, hl with
  | [_, _, _], _ => rfl
theorem sc_law_do : FnScope N_law_do ["_law_table_here", "_law_number", "_law_row_here"] (defScope s_law_do) := ⟨rfl, rfl, rfl, by decide +kernel, rfl, by decide +kernel, by decide +kernel⟩
theorem b_law_do_all : BindsF "_law_do_all" s_law_do_all ["_law_table_here", "_law_rows_here"] := fun _ _ _ _ _ _ us hl => by
  match us, hl with
  | [_, _], _ => rfl
theorem sc_law_do_all : FnScope N_law_do_all ["_law_table_here", "_law_rows_here"] (defScope s_law_do_all) := ⟨rfl, rfl, rfl, by decide +kernel, rfl, by decide +kernel, by decide +kernel⟩
theorem b_law_worths : BindsF "_law_worths" s_law_worths ["_law_rows_here"] := fun _ _ _ _ _ _ us hl => by
  match us, hl with
  | [_], _ => rfl
theorem sc_law_worths : FnScope N_law_worths ["_law_rows_here"] (defScope s_law_worths) := ⟨rfl, rfl, rfl, by decide +kernel, rfl, by decide +kernel, by decide +kernel⟩
theorem b_law : BindsF "law" s_law ["_law_script"] := fun _ _ _ _ _ _ us hl => by
  match us, hl with
  | [_], _ => rfl
theorem sc_law : FnScope N_law ["_law_script"] (defScope s_law) := ⟨rfl, rfl, rfl, by decide +kernel, rfl, by decide +kernel, by decide +kernel⟩
end
end L3.K55
namespace L3.K55
open PySem PySem.Spec PyProof.Rows L2
abbrev E0 (Q : KD) : End3 := { nx := fun _ M' => Q .non M', rt := Q }
theorem dk_put {a b c d : D} : putDs dkKs [a, b, c] (.inr "draws") d = [a, b, d] := rfl
theorem dk_ks : putKs dkKs (.inr "draws") = dkKs := rfl
theorem dk_c {a b c : D} : getK dkKs [a, b, c] (.inr "cells") = some a := rfl
theorem dk_m {a b c : D} : getK dkKs [a, b, c] (.inr "mixed") = some b := rfl
theorem dk_d {a b c : D} : getK dkKs [a, b, c] (.inr "draws") = some c := rfl
theorem sz_lt {n : Nat} (h : n < 1000001) : n < sizeLine := by rw [sizeLine_eq]; omega
theorem sz_le {n : Nat} (h : n ≤ 1000001) : n ≤ sizeLine := by rw [sizeLine_eq]; omega
theorem Deck.mk' {n : Nat} {R : St3} (cs : List D) (es : List Int) (mx dr : Int) (e : cs = es.map .int) (h1 : es.length ≤ 63) (h2 : 0 ≤ mx) (h3 : mx < 2147483587) (h4 : 0 ≤ dr) (h5 : dr ≤ n) : Deck n R (.lst cs :: .dic dkKs [.obj 0, .int mx, .int dr] :: R) := ⟨es, mx, dr, by rw [e], h1, h2, h3, h4, h5⟩
theorem dl_law_draw {M : St3} {ds : List D} {Q : KD} (h : spDraw M ds Q) : td_law_draw (E0 Q) (ds.map some ++ List.replicate 2 none) M := by
  obtain ⟨k, n, R, rfl, ⟨hk0, hk1⟩, hn, ⟨cs, mx, dr, rfl, hc, hm0, hm1, hd0, hd1⟩, q⟩ := h
  have fin : ∀ (cs : List D) (es : List Int) (x : Int), cs = es.map .int → es.length ≤ 63 → Q (.int (x % k)) (.lst cs :: .dic dkKs [.obj 0, .int mx, .int (dr + 1)] :: R) := fun cs es x e hl =>
    q _ _ (Int.emod_nonneg _ (by omega)) (Int.emod_lt_of_pos _ hk0) (Deck.mk' _ es mx (dr + 1) e hl hm0 hm1 (by omega) (by omega))
  have p18 : (10 : Int) ^ Int.toNat 18 = 1000000000000000000 := by decide
  have pc : CPow 10 18 := by unfold CPow; decide
  have hn' : n ≤ 1000000 := hn
  have h13 : 0 + 1 + 1 + 1 < sizeLine := sz_lt (by decide)
  have h0 : 0 ≤ sizeLine := Nat.zero_le _
  rcases List.eq_nil_or_concat cs with rfl | ⟨cs, c, e0⟩
  rotate_left
  rw [List.concat_eq_append] at e0; subst e0
  rotate_left
  · simp only [td_law_draw, ↓sSeq_u, ↓sNext_u, ↓sBreak_u, ↓sCont_u, ↓sDrop_u, ↓sRet_u, ↓sRetN_u, ↓sIf_u, ↓sAsg_u, ↓sPut_u, ↓sFor_u, ↓dC_u, ↓dNil_u, ↓dCons_u, ↓dBlt_u, ↓dOp2_u, ↓dUn_u, ↓dMeth_u, ↓dCall_u, ↓dCallK_u, ↓dNotT_u, ↓dAndT_u, ↓dOrT_u, ↓dIf_u, ↓dTup_u, ↓dLst_u, ↓dLstO_u, ↓dSl_u, ↓dNoPart_u, ↓dRev_u, ↓dYes_u, ↓dDic0_u, ↓dLc_u, ↓dEnum_u, ↓dZip_u, ↓gtName_u, ↓dSortSet_u, ↓dSetK_u, ↓dDisp_u, ↓dVar_m, ↓dTru_m, ↓dAnd_m, ↓dOr_m, ↓dNot_m, ↓dChain_m, ↓dIter_m, ↓dRange1_m, ↓dPart_m, ↓gtCons_m, ↓gtNil_m, ↓gtTup_m, ↓sPar_m, ↓oAdd_m, ↓oInt_m, ↓oNeg_m, ↓oOrd_m, ↓oIx_m, ↓oLen_m, ↓oToInt_m, ↓oToTup_m, ↓oToList_m, ↓oGet1_m, ↓oUpper_m, ↓oToStr_m, ↓oPop_m, ↓oAppend_m, ↓oPut_m, ↓oSIndex_m, ↓atI_m, ↓getK_m, ↓oSl, ↓oRev, ↓oIsi_T, ↓oMax2I, ↓oMulI, ↓eqI, ↓eqS, ↓eqL, ↓eqT, ↓neI, ↓neS, ↓neL, ↓neT, vw_non, vw_bl, vw_int, vw_str, vw_tup, vw_lst, vw_dic, vw_raw, vw_obj, truD, keyD, itemsOf, mthTy, lenD, seqD, List.map_cons, List.map_nil, List.cons_append, List.nil_append, List.getElem?_cons_zero, List.getElem?_cons_succ, List.getElem?_nil, List.set_cons_zero, List.set_cons_succ, List.length_cons, List.length_nil, ↓reduceIte, Bool.not_true, Bool.not_false, Bool.false_eq_true, true_and, and_true, List.replicate_zero, List.replicate_succ, List.append_nil, dk_put, dk_ks, dk_c, dk_m, dk_d, List.isEmpty_nil]
    refine ⟨h13, mul_s (by omega) (by omega), h0, mul_s (by omega) (by omega), by decide, mul_s (by omega) (by omega), mul_s (by omega) (by omega), by decide, mul_s (by omega) (by omega), by decide, divW (by decide) (by decide), hk0, ?_⟩
    exact fin [] [] _ rfl (by decide)
  · have hne : (List.map D.int (cs ++ [c])).isEmpty = false := by simp
    have hl : (List.map D.int (cs ++ [c]))[(List.map D.int (cs ++ [c])).length - 1]? = some (.int c) := by simp
    have hd : (List.map D.int (cs ++ [c])).dropLast = cs.map D.int := by simp
    have hc' : cs.length < 63 := by simp at hc; omega
    simp only [td_law_draw, ↓sSeq_u, ↓sNext_u, ↓sBreak_u, ↓sCont_u, ↓sDrop_u, ↓sRet_u, ↓sRetN_u, ↓sIf_u, ↓sAsg_u, ↓sPut_u, ↓sFor_u, ↓dC_u, ↓dNil_u, ↓dCons_u, ↓dBlt_u, ↓dOp2_u, ↓dUn_u, ↓dMeth_u, ↓dCall_u, ↓dCallK_u, ↓dNotT_u, ↓dAndT_u, ↓dOrT_u, ↓dIf_u, ↓dTup_u, ↓dLst_u, ↓dLstO_u, ↓dSl_u, ↓dNoPart_u, ↓dRev_u, ↓dYes_u, ↓dDic0_u, ↓dLc_u, ↓dEnum_u, ↓dZip_u, ↓gtName_u, ↓dSortSet_u, ↓dSetK_u, ↓dDisp_u, ↓dVar_m, ↓dTru_m, ↓dAnd_m, ↓dOr_m, ↓dNot_m, ↓dChain_m, ↓dIter_m, ↓dRange1_m, ↓dPart_m, ↓gtCons_m, ↓gtNil_m, ↓gtTup_m, ↓sPar_m, ↓oAdd_m, ↓oInt_m, ↓oNeg_m, ↓oOrd_m, ↓oIx_m, ↓oLen_m, ↓oToInt_m, ↓oToTup_m, ↓oToList_m, ↓oGet1_m, ↓oUpper_m, ↓oToStr_m, ↓oPop_m, ↓oAppend_m, ↓oPut_m, ↓oSIndex_m, ↓atI_m, ↓getK_m, ↓oSl, ↓oRev, ↓oIsi_T, ↓oMax2I, ↓oMulI, ↓eqI, ↓eqS, ↓eqL, ↓eqT, ↓neI, ↓neS, ↓neL, ↓neT, vw_non, vw_bl, vw_int, vw_str, vw_tup, vw_lst, vw_dic, vw_raw, vw_obj, truD, keyD, itemsOf, mthTy, lenD, seqD, List.map_cons, List.map_nil, List.cons_append, List.nil_append, List.getElem?_cons_zero, List.getElem?_cons_succ, List.getElem?_nil, List.set_cons_zero, List.set_cons_succ, List.length_cons, List.length_nil, ↓reduceIte, Bool.not_true, Bool.not_false, Bool.false_eq_true, true_and, and_true, List.replicate_zero, List.replicate_succ, List.append_nil, dk_put, dk_ks, dk_c, dk_m, dk_d, hne, hl, hd, p18]
    refine ⟨h13, mul_s (by omega) (by omega), h0, pc, ?_⟩
    split
    · refine ⟨divW (by split <;> omega) (by split <;> omega), sz_lt (by simp; omega), hk0, ?_⟩
      exact fin _ (cs ++ [_]) _ (by simp; rfl) (by simp; omega)
    · refine ⟨by decide, mul_s (by omega) (by omega), by decide, mul_s (by omega) (by omega), mul_s (by omega) (by omega), by decide, mul_s (by omega) (by omega), by decide, divW (by decide) (by decide), hk0, ?_⟩
      exact fin _ cs _ rfl (by omega)
theorem dl_law_pick {M : St3} {ds : List D} {Q : KD} (h : spPick M ds Q) : td_law_pick spDraw (E0 Q) (ds.map some ++ List.replicate 0 none) M := by
  obtain ⟨xs, n, R, rfl, ⟨h1, h2⟩, hn, hD, q⟩ := h
  have hp := List.length_pos_iff.mpr h1
  simp only [td_law_pick, ↓sSeq_u, ↓sNext_u, ↓sBreak_u, ↓sCont_u, ↓sDrop_u, ↓sRet_u, ↓sRetN_u, ↓sIf_u, ↓sAsg_u, ↓sPut_u, ↓sFor_u, ↓dC_u, ↓dNil_u, ↓dCons_u, ↓dBlt_u, ↓dOp2_u, ↓dUn_u, ↓dMeth_u, ↓dCall_u, ↓dCallK_u, ↓dNotT_u, ↓dAndT_u, ↓dOrT_u, ↓dIf_u, ↓dTup_u, ↓dLst_u, ↓dLstO_u, ↓dSl_u, ↓dNoPart_u, ↓dRev_u, ↓dYes_u, ↓dDic0_u, ↓dLc_u, ↓dEnum_u, ↓dZip_u, ↓gtName_u, ↓dSortSet_u, ↓dSetK_u, ↓dDisp_u, ↓dVar_m, ↓dTru_m, ↓dAnd_m, ↓dOr_m, ↓dNot_m, ↓dChain_m, ↓dIter_m, ↓dRange1_m, ↓dPart_m, ↓gtCons_m, ↓gtNil_m, ↓gtTup_m, ↓sPar_m, ↓oAdd_m, ↓oInt_m, ↓oNeg_m, ↓oOrd_m, ↓oIx_m, ↓oLen_m, ↓oToInt_m, ↓oToTup_m, ↓oToList_m, ↓oGet1_m, ↓oUpper_m, ↓oToStr_m, ↓oPop_m, ↓oAppend_m, ↓oPut_m, ↓oSIndex_m, ↓atI_m, ↓getK_m, ↓oSl, ↓oRev, ↓oIsi_T, ↓oMax2I, ↓oMulI, ↓eqI, ↓eqS, ↓eqL, ↓eqT, ↓neI, ↓neS, ↓neL, ↓neT, vw_non, vw_bl, vw_int, vw_str, vw_tup, vw_lst, vw_dic, vw_raw, vw_obj, truD, keyD, itemsOf, mthTy, lenD, seqD, List.map_cons, List.map_nil, List.cons_append, List.nil_append, List.getElem?_cons_zero, List.getElem?_cons_succ, List.getElem?_nil, List.set_cons_zero, List.set_cons_succ, List.length_cons, List.length_nil, ↓reduceIte, Bool.not_true, Bool.not_false, Bool.false_eq_true, true_and, and_true, List.replicate_zero, List.replicate_succ, List.append_nil]
  refine ⟨(xs.length : Int), n, R, rfl, ⟨by omega, by omega⟩, hn, hD, fun r M' r0 r1 hD' => ?_⟩
  obtain ⟨x, e, hx⟩ := atI_mem (xs := xs) r0 (by omega)
  simp only [↓sSeq_u, ↓sNext_u, ↓sBreak_u, ↓sCont_u, ↓sDrop_u, ↓sRet_u, ↓sRetN_u, ↓sIf_u, ↓sAsg_u, ↓sPut_u, ↓sFor_u, ↓dC_u, ↓dNil_u, ↓dCons_u, ↓dBlt_u, ↓dOp2_u, ↓dUn_u, ↓dMeth_u, ↓dCall_u, ↓dCallK_u, ↓dNotT_u, ↓dAndT_u, ↓dOrT_u, ↓dIf_u, ↓dTup_u, ↓dLst_u, ↓dLstO_u, ↓dSl_u, ↓dNoPart_u, ↓dRev_u, ↓dYes_u, ↓dDic0_u, ↓dLc_u, ↓dEnum_u, ↓dZip_u, ↓gtName_u, ↓dSortSet_u, ↓dSetK_u, ↓dDisp_u, ↓dVar_m, ↓dTru_m, ↓dAnd_m, ↓dOr_m, ↓dNot_m, ↓dChain_m, ↓dIter_m, ↓dRange1_m, ↓dPart_m, ↓gtCons_m, ↓gtNil_m, ↓gtTup_m, ↓sPar_m, ↓oAdd_m, ↓oInt_m, ↓oNeg_m, ↓oOrd_m, ↓oIx_m, ↓oLen_m, ↓oToInt_m, ↓oToTup_m, ↓oToList_m, ↓oGet1_m, ↓oUpper_m, ↓oToStr_m, ↓oPop_m, ↓oAppend_m, ↓oPut_m, ↓oSIndex_m, ↓atI_m, ↓getK_m, ↓oSl, ↓oRev, ↓oIsi_T, ↓oMax2I, ↓oMulI, ↓eqI, ↓eqS, ↓eqL, ↓eqT, ↓neI, ↓neS, ↓neL, ↓neT, vw_non, vw_bl, vw_int, vw_str, vw_tup, vw_lst, vw_dic, vw_raw, vw_obj, truD, keyD, itemsOf, mthTy, lenD, seqD, List.map_cons, List.map_nil, List.cons_append, List.nil_append, List.getElem?_cons_zero, List.getElem?_cons_succ, List.getElem?_nil, List.set_cons_zero, List.set_cons_succ, List.length_cons, List.length_nil, ↓reduceIte, Bool.not_true, Bool.not_false, Bool.false_eq_true, true_and, and_true, List.replicate_zero, List.replicate_succ, List.append_nil, e]
  exact q x M' hx hD'
/-- the deck of a script -/
def spDeck : DSp := fun M ds Q => ∃ xs : List Int, ds = [.lst (xs.map .int)] ∧ M = [] ∧ ∀ M', Deck 0 [] M' → Q (.obj 1) M'
theorem cut63 (xs : List Int) : cutD (xs.map D.int) none (some 63) = (xs.take 63).map D.int := by
  unfold cutD HT.sIx
  simp only [Int.reduceLT, if_false, List.drop_zero, Nat.sub_zero, ← List.map_take]
  congr 1
  rw [List.length_map]
  show List.take (min (Int.toNat 63) xs.length) xs = _
  rw [show Int.toNat 63 = 63 from rfl]; exact List.take_eq_take_min.symm
theorem dl_law_deck {M : St3} {ds : List D} {Q : KD} (h : spDeck M ds Q) : td_law_deck (E0 Q) (ds.map some ++ List.replicate 2 none) M := by
  obtain ⟨xs, rfl, rfl, q⟩ := h
  simp only [td_law_deck, ↓sSeq_u, ↓sNext_u, ↓sBreak_u, ↓sCont_u, ↓sDrop_u, ↓sRet_u, ↓sRetN_u, ↓sIf_u, ↓sAsg_u, ↓sPut_u, ↓sFor_u, ↓dC_u, ↓dNil_u, ↓dCons_u, ↓dBlt_u, ↓dOp2_u, ↓dUn_u, ↓dMeth_u, ↓dCall_u, ↓dCallK_u, ↓dNotT_u, ↓dAndT_u, ↓dOrT_u, ↓dIf_u, ↓dTup_u, ↓dLst_u, ↓dLstO_u, ↓dSl_u, ↓dNoPart_u, ↓dRev_u, ↓dYes_u, ↓dDic0_u, ↓dLc_u, ↓dEnum_u, ↓dZip_u, ↓gtName_u, ↓dSortSet_u, ↓dSetK_u, ↓dDisp_u, ↓dVar_m, ↓dTru_m, ↓dAnd_m, ↓dOr_m, ↓dNot_m, ↓dChain_m, ↓dIter_m, ↓dRange1_m, ↓dPart_m, ↓gtCons_m, ↓gtNil_m, ↓gtTup_m, ↓sPar_m, ↓oAdd_m, ↓oInt_m, ↓oNeg_m, ↓oOrd_m, ↓oIx_m, ↓oLen_m, ↓oToInt_m, ↓oToTup_m, ↓oToList_m, ↓oGet1_m, ↓oUpper_m, ↓oToStr_m, ↓oPop_m, ↓oAppend_m, ↓oPut_m, ↓oSIndex_m, ↓atI_m, ↓getK_m, ↓oSl, ↓oRev, ↓oIsi_T, ↓oMax2I, ↓oMulI, ↓eqI, ↓eqS, ↓eqL, ↓eqT, ↓neI, ↓neS, ↓neL, ↓neT, vw_non, vw_bl, vw_int, vw_str, vw_tup, vw_lst, vw_dic, vw_raw, vw_obj, truD, keyD, itemsOf, mthTy, lenD, seqD, List.map_cons, List.map_nil, List.cons_append, List.nil_append, List.getElem?_cons_zero, List.getElem?_cons_succ, List.getElem?_nil, List.set_cons_zero, List.set_cons_succ, List.length_cons, List.length_nil, ↓reduceIte, Bool.not_true, Bool.not_false, Bool.false_eq_true, true_and, and_true, List.replicate_zero, List.replicate_succ, List.append_nil, cut63]
  refine forGo_inv (fun i env M => ∃ (mx : Int) (c : Option D), env = [some (.lst (xs.map .int)), some (.int mx), c] ∧ 0 ≤ mx ∧ mx < 2147483587 ∧ M = []) ?_ ?_ ⟨13753676, none, rfl, by decide, by decide, rfl⟩
  · rintro i x env M hx ⟨mx, c, rfl, h0, h1, rfl⟩ N hN
    obtain ⟨y, hy, rfl⟩ := List.mem_map.mp (List.mem_of_getElem? hx)
    refine ⟨trivial, ?_⟩
    simp only [↓sSeq_u, ↓sNext_u, ↓sBreak_u, ↓sCont_u, ↓sDrop_u, ↓sRet_u, ↓sRetN_u, ↓sIf_u, ↓sAsg_u, ↓sPut_u, ↓sFor_u, ↓dC_u, ↓dNil_u, ↓dCons_u, ↓dBlt_u, ↓dOp2_u, ↓dUn_u, ↓dMeth_u, ↓dCall_u, ↓dCallK_u, ↓dNotT_u, ↓dAndT_u, ↓dOrT_u, ↓dIf_u, ↓dTup_u, ↓dLst_u, ↓dLstO_u, ↓dSl_u, ↓dNoPart_u, ↓dRev_u, ↓dYes_u, ↓dDic0_u, ↓dLc_u, ↓dEnum_u, ↓dZip_u, ↓gtName_u, ↓dSortSet_u, ↓dSetK_u, ↓dDisp_u, ↓dVar_m, ↓dTru_m, ↓dAnd_m, ↓dOr_m, ↓dNot_m, ↓dChain_m, ↓dIter_m, ↓dRange1_m, ↓dPart_m, ↓gtCons_m, ↓gtNil_m, ↓gtTup_m, ↓sPar_m, ↓oAdd_m, ↓oInt_m, ↓oNeg_m, ↓oOrd_m, ↓oIx_m, ↓oLen_m, ↓oToInt_m, ↓oToTup_m, ↓oToList_m, ↓oGet1_m, ↓oUpper_m, ↓oToStr_m, ↓oPop_m, ↓oAppend_m, ↓oPut_m, ↓oSIndex_m, ↓atI_m, ↓getK_m, ↓oSl, ↓oRev, ↓oIsi_T, ↓oMax2I, ↓oMulI, ↓eqI, ↓eqS, ↓eqL, ↓eqT, ↓neI, ↓neS, ↓neL, ↓neT, vw_non, vw_bl, vw_int, vw_str, vw_tup, vw_lst, vw_dic, vw_raw, vw_obj, truD, keyD, itemsOf, mthTy, lenD, seqD, List.map_cons, List.map_nil, List.cons_append, List.nil_append, List.getElem?_cons_zero, List.getElem?_cons_succ, List.getElem?_nil, List.set_cons_zero, List.set_cons_succ, List.length_cons, List.length_nil, ↓reduceIte, Bool.not_true, Bool.not_false, Bool.false_eq_true, true_and, and_true, List.replicate_zero, List.replicate_succ, List.append_nil]
    refine ⟨mul_s (by omega) (by omega), by decide, by decide, ?_⟩
    exact hN _ _ ⟨_, _, rfl, Int.emod_nonneg _ (by decide), Int.emod_lt_of_pos _ (by decide), rfl⟩
  · rintro env M ⟨mx, c, rfl, h0, h1, rfl⟩
    refine ⟨trivial, ?_⟩
    simp only [↓sSeq_u, ↓sNext_u, ↓sBreak_u, ↓sCont_u, ↓sDrop_u, ↓sRet_u, ↓sRetN_u, ↓sIf_u, ↓sAsg_u, ↓sPut_u, ↓sFor_u, ↓dC_u, ↓dNil_u, ↓dCons_u, ↓dBlt_u, ↓dOp2_u, ↓dUn_u, ↓dMeth_u, ↓dCall_u, ↓dCallK_u, ↓dNotT_u, ↓dAndT_u, ↓dOrT_u, ↓dIf_u, ↓dTup_u, ↓dLst_u, ↓dLstO_u, ↓dSl_u, ↓dNoPart_u, ↓dRev_u, ↓dYes_u, ↓dDic0_u, ↓dLc_u, ↓dEnum_u, ↓dZip_u, ↓gtName_u, ↓dSortSet_u, ↓dSetK_u, ↓dDisp_u, ↓dVar_m, ↓dTru_m, ↓dAnd_m, ↓dOr_m, ↓dNot_m, ↓dChain_m, ↓dIter_m, ↓dRange1_m, ↓dPart_m, ↓gtCons_m, ↓gtNil_m, ↓gtTup_m, ↓sPar_m, ↓oAdd_m, ↓oInt_m, ↓oNeg_m, ↓oOrd_m, ↓oIx_m, ↓oLen_m, ↓oToInt_m, ↓oToTup_m, ↓oToList_m, ↓oGet1_m, ↓oUpper_m, ↓oToStr_m, ↓oPop_m, ↓oAppend_m, ↓oPut_m, ↓oSIndex_m, ↓atI_m, ↓getK_m, ↓oSl, ↓oRev, ↓oIsi_T, ↓oMax2I, ↓oMulI, ↓eqI, ↓eqS, ↓eqL, ↓eqT, ↓neI, ↓neS, ↓neL, ↓neT, vw_non, vw_bl, vw_int, vw_str, vw_tup, vw_lst, vw_dic, vw_raw, vw_obj, truD, keyD, itemsOf, mthTy, lenD, seqD, List.map_cons, List.map_nil, List.cons_append, List.nil_append, List.getElem?_cons_zero, List.getElem?_cons_succ, List.getElem?_nil, List.set_cons_zero, List.set_cons_succ, List.length_cons, List.length_nil, ↓reduceIte, Bool.not_true, Bool.not_false, Bool.false_eq_true, true_and, and_true, List.replicate_zero, List.replicate_succ, List.append_nil, cut63, dPairs]
    refine ⟨[(.inr "cells", .obj 0), (.inr "mixed", .int mx), (.inr "draws", .int 0)], rfl, by simp, ?_⟩
    show Q (.obj 1) _
    refine q _ ?_
    exact Deck.mk' _ ((xs.take 63).reverse) mx 0 (by simp) (by simp; omega) h0 h1 (by decide) (by decide)
end L3.K55
namespace L3.K55
open PySem PySem.Spec PyProof.Rows L2
/-! ### plain values, and what both sides compute -/
mutual
def plV : D → Bool
  | .tup ds | .lst ds => decide (ds.length ≤ 3000) && plVs ds
  | .str x => decide (x.length ≤ 3000)
  | .obj _ | .raw _ => false
  | _ => true
def plVs : List D → Bool
  | [] => true
  | d :: r => plV d && plVs r
end
theorem plVs_all : ∀ ds : List D, plVs ds = true ↔ ∀ d ∈ ds, plV d = true
  | [] => by simp [plVs]
  | d :: r => by simp [plVs, plVs_all r]
theorem pl_vw {M : St3} {d : D} (h : plV d = true) : vw M d = d := by
  cases d <;> first | rfl | simp [plV] at h
theorem pl_ty {d : D} (h : plV d = true) : tyD d ≠ "" := by
  cases d <;> first | (simp [plV] at h; done) | (simp only [tyD]; decide)
theorem pl_tup {ds : List D} (h : plV (.tup ds) = true) : ds.length ≤ 3000 ∧ ∀ d ∈ ds, plV d = true := by
  simp only [plV, Bool.and_eq_true, decide_eq_true_eq, plVs_all] at h; exact h
def isI : D → Bool | .int _ => true | _ => false
def isC : D → Bool | .int i => decide (0 ≤ i) | _ => false
abbrev letters : Str := "abcdefghijklmnopqrstuvwxyz"
def letC (c : Nat) : Bool := inStr ⟨#[c]⟩ letters
def wordS (x : Str) : Bool := decide (1 ≤ x.length) && (decide (x.length ≤ 10) && x.cps.toList.all letC)
def isW : D → Bool | .str x => wordS x | _ => false
def isR (n : Int) : D → Bool | .tup xs => decide ((xs.length : Int) = n) | _ => false
def risS (xs : List Str) : Bool := (xs.zip (xs.drop 1)).all fun p => decide (p.1.cps.toList < p.2.cps.toList)
def idx (c : Nat) : Int := match Builtin.Str.occurrences letters ⟨#[c]⟩ 0 letters.length 1 with | i :: _ => (i : Nat) | [] => 0
def plS (x : Str) (m : Int) : Int := (x.cps.toList.map idx).sum % m
def prB : D → Bool | .tup [k, w] => isW k && isI w | _ => false
def keyStr : D → Str | .tup (.str x :: _) => x | _ => Str.empty
def pgB (a m : Int) : D → Bool | .tup [l, .tup ps] => isC l && (ps.all prB && (risS (ps.map keyStr) && (ps.map keyStr).all fun x => decide (plS x m = a))) | _ => false
def pgE (m : Int) : D → Bool | .tup [.int a, p] => pgB a m p | _ => false
def pagesB : D → Bool | .tup ps => decide (1 ≤ ps.length) && (decide (ps.length ≤ 8) && (enumD ps).all (pgE ps.length)) | _ => false
def sp1 (C : D → Prop) (f : D → D) : DSp := fun M ds Q => ∃ d, ds = [d] ∧ C d ∧ Q (f d) M
abbrev plP (d : D) : Prop := plV d = true
theorem kt (T : String) (h : tyKnown T = true := by rfl) : (tyKnown T = true) = True := by simp [h]
theorem kt_i : (tyKnown "int" = true) = True := kt _
theorem kt_b : (tyKnown "bool" = true) = True := kt _
theorem kt_s : (tyKnown "str" = true) = True := kt _
theorem kt_t : (tyKnown "tuple" = true) = True := kt _
theorem dl_is_integer {M : St3} {ds : List D} {Q : KD} (h : sp1 plP (fun d => .bl (isI d)) M ds Q) : td_is_integer (E0 Q) (ds.map some ++ List.replicate 0 none) M := by
  obtain ⟨d, rfl, hd, q⟩ := h
  have e : vw M d = d := pl_vw hd
  have t := pl_ty hd
  simp only [td_is_integer, ↓sSeq_u, ↓sNext_u, ↓sBreak_u, ↓sCont_u, ↓sDrop_u, ↓sRet_u, ↓sRetN_u, ↓sIf_u, ↓sAsg_u, ↓sPut_u, ↓sFor_u, ↓dC_u, ↓dNil_u, ↓dCons_u, ↓dBlt_u, ↓dOp2_u, ↓dUn_u, ↓dMeth_u, ↓dCall_u, ↓dCallK_u, ↓dNotT_u, ↓dAndT_u, ↓dOrT_u, ↓dIf_u, ↓dTup_u, ↓dLst_u, ↓dLstO_u, ↓dSl_u, ↓dNoPart_u, ↓dRev_u, ↓dYes_u, ↓dDic0_u, ↓dLc_u, ↓dEnum_u, ↓dZip_u, ↓gtName_u, ↓dSortSet_u, ↓dSetK_u, ↓dDisp_u, ↓dVar_m, ↓dTru_m, ↓dAnd_m, ↓dOr_m, ↓dNot_m, ↓dChain_m, ↓dIter_m, ↓dRange1_m, ↓dPart_m, ↓gtCons_m, ↓gtNil_m, ↓gtTup_m, ↓sPar_m, ↓oAdd_m, ↓oInt_m, ↓oNeg_m, ↓oOrd_m, ↓oIx_m, ↓oLen_m, ↓oToInt_m, ↓oToTup_m, ↓oToList_m, ↓oGet1_m, ↓oUpper_m, ↓oToStr_m, ↓oPop_m, ↓oAppend_m, ↓oPut_m, ↓oSIndex_m, ↓atI_m, ↓getK_m, ↓oSl, ↓oRev, ↓oIsi_T, ↓oMax2I, ↓oMulI, ↓eqI, ↓eqS, ↓eqL, ↓eqT, ↓neI, ↓neS, ↓neL, ↓neT, vw_non, vw_bl, vw_int, vw_str, vw_tup, vw_lst, vw_dic, vw_raw, vw_obj, truD, keyD, itemsOf, mthTy, lenD, seqD, List.map_cons, List.map_nil, List.cons_append, List.nil_append, List.getElem?_cons_zero, List.getElem?_cons_succ, List.getElem?_nil, List.set_cons_zero, List.set_cons_succ, List.length_cons, List.length_nil, ↓reduceIte, Bool.not_true, Bool.not_false, Bool.false_eq_true, true_and, and_true, List.replicate_zero, List.replicate_succ, List.append_nil, e, kt_i, kt_b]
  refine ⟨t, ?_⟩
  cases d <;> first | exact q | (simp [plV] at hd; done) | exact ⟨t, q⟩
theorem dl_is_count {M : St3} {ds : List D} {Q : KD} (h : sp1 plP (fun d => .bl (isC d)) M ds Q) : td_is_count (sp1 plP fun d => .bl (isI d)) (E0 Q) (ds.map some ++ List.replicate 0 none) M := by
  obtain ⟨d, rfl, hd, q⟩ := h
  have e : vw M d = d := pl_vw hd
  simp only [td_is_count, ↓sSeq_u, ↓sNext_u, ↓sBreak_u, ↓sCont_u, ↓sDrop_u, ↓sRet_u, ↓sRetN_u, ↓sIf_u, ↓sAsg_u, ↓sPut_u, ↓sFor_u, ↓dC_u, ↓dNil_u, ↓dCons_u, ↓dBlt_u, ↓dOp2_u, ↓dUn_u, ↓dMeth_u, ↓dCall_u, ↓dCallK_u, ↓dNotT_u, ↓dAndT_u, ↓dOrT_u, ↓dIf_u, ↓dTup_u, ↓dLst_u, ↓dLstO_u, ↓dSl_u, ↓dNoPart_u, ↓dRev_u, ↓dYes_u, ↓dDic0_u, ↓dLc_u, ↓dEnum_u, ↓dZip_u, ↓gtName_u, ↓dSortSet_u, ↓dSetK_u, ↓dDisp_u, ↓dVar_m, ↓dTru_m, ↓dAnd_m, ↓dOr_m, ↓dNot_m, ↓dChain_m, ↓dIter_m, ↓dRange1_m, ↓dPart_m, ↓gtCons_m, ↓gtNil_m, ↓gtTup_m, ↓sPar_m, ↓oAdd_m, ↓oInt_m, ↓oNeg_m, ↓oOrd_m, ↓oIx_m, ↓oLen_m, ↓oToInt_m, ↓oToTup_m, ↓oToList_m, ↓oGet1_m, ↓oUpper_m, ↓oToStr_m, ↓oPop_m, ↓oAppend_m, ↓oPut_m, ↓oSIndex_m, ↓atI_m, ↓getK_m, ↓oSl, ↓oRev, ↓oIsi_T, ↓oMax2I, ↓oMulI, ↓eqI, ↓eqS, ↓eqL, ↓eqT, ↓neI, ↓neS, ↓neL, ↓neT, vw_non, vw_bl, vw_int, vw_str, vw_tup, vw_lst, vw_dic, vw_raw, vw_obj, truD, keyD, itemsOf, mthTy, lenD, seqD, List.map_cons, List.map_nil, List.cons_append, List.nil_append, List.getElem?_cons_zero, List.getElem?_cons_succ, List.getElem?_nil, List.set_cons_zero, List.set_cons_succ, List.length_cons, List.length_nil, ↓reduceIte, Bool.not_true, Bool.not_false, Bool.false_eq_true, true_and, and_true, List.replicate_zero, List.replicate_succ, List.append_nil]
  refine ⟨d, rfl, hd, ?_⟩
  simp only [↓sSeq_u, ↓sNext_u, ↓sBreak_u, ↓sCont_u, ↓sDrop_u, ↓sRet_u, ↓sRetN_u, ↓sIf_u, ↓sAsg_u, ↓sPut_u, ↓sFor_u, ↓dC_u, ↓dNil_u, ↓dCons_u, ↓dBlt_u, ↓dOp2_u, ↓dUn_u, ↓dMeth_u, ↓dCall_u, ↓dCallK_u, ↓dNotT_u, ↓dAndT_u, ↓dOrT_u, ↓dIf_u, ↓dTup_u, ↓dLst_u, ↓dLstO_u, ↓dSl_u, ↓dNoPart_u, ↓dRev_u, ↓dYes_u, ↓dDic0_u, ↓dLc_u, ↓dEnum_u, ↓dZip_u, ↓gtName_u, ↓dSortSet_u, ↓dSetK_u, ↓dDisp_u, ↓dVar_m, ↓dTru_m, ↓dAnd_m, ↓dOr_m, ↓dNot_m, ↓dChain_m, ↓dIter_m, ↓dRange1_m, ↓dPart_m, ↓gtCons_m, ↓gtNil_m, ↓gtTup_m, ↓sPar_m, ↓oAdd_m, ↓oInt_m, ↓oNeg_m, ↓oOrd_m, ↓oIx_m, ↓oLen_m, ↓oToInt_m, ↓oToTup_m, ↓oToList_m, ↓oGet1_m, ↓oUpper_m, ↓oToStr_m, ↓oPop_m, ↓oAppend_m, ↓oPut_m, ↓oSIndex_m, ↓atI_m, ↓getK_m, ↓oSl, ↓oRev, ↓oIsi_T, ↓oMax2I, ↓oMulI, ↓eqI, ↓eqS, ↓eqL, ↓eqT, ↓neI, ↓neS, ↓neL, ↓neT, vw_non, vw_bl, vw_int, vw_str, vw_tup, vw_lst, vw_dic, vw_raw, vw_obj, truD, keyD, itemsOf, mthTy, lenD, seqD, List.map_cons, List.map_nil, List.cons_append, List.nil_append, List.getElem?_cons_zero, List.getElem?_cons_succ, List.getElem?_nil, List.set_cons_zero, List.set_cons_succ, List.length_cons, List.length_nil, ↓reduceIte, Bool.not_true, Bool.not_false, Bool.false_eq_true, true_and, and_true, List.replicate_zero, List.replicate_succ, List.append_nil, e]
  cases d <;> first | exact q | (simp [plV] at hd; done)
/-- is_between, of whole numbers as bounds -/
def isB (a b : Int) : D → Bool | .int i => decide (a ≤ i) && decide (i ≤ b) | _ => false
def spBetween : DSp := fun M ds Q => ∃ (d : D) (a b : Int), ds = [d, .int a, .int b] ∧ plP d ∧ Q (.bl (isB a b d)) M
theorem dl_is_between {M : St3} {ds : List D} {Q : KD} (h : spBetween M ds Q) : td_is_between (sp1 plP fun d => .bl (isI d)) (E0 Q) (ds.map some ++ List.replicate 0 none) M := by
  obtain ⟨d, a, b, rfl, hd, q⟩ := h
  have e : vw M d = d := pl_vw hd
  simp only [td_is_between, ↓sSeq_u, ↓sNext_u, ↓sBreak_u, ↓sCont_u, ↓sDrop_u, ↓sRet_u, ↓sRetN_u, ↓sIf_u, ↓sAsg_u, ↓sPut_u, ↓sFor_u, ↓dC_u, ↓dNil_u, ↓dCons_u, ↓dBlt_u, ↓dOp2_u, ↓dUn_u, ↓dMeth_u, ↓dCall_u, ↓dCallK_u, ↓dNotT_u, ↓dAndT_u, ↓dOrT_u, ↓dIf_u, ↓dTup_u, ↓dLst_u, ↓dLstO_u, ↓dSl_u, ↓dNoPart_u, ↓dRev_u, ↓dYes_u, ↓dDic0_u, ↓dLc_u, ↓dEnum_u, ↓dZip_u, ↓gtName_u, ↓dSortSet_u, ↓dSetK_u, ↓dDisp_u, ↓dVar_m, ↓dTru_m, ↓dAnd_m, ↓dOr_m, ↓dNot_m, ↓dChain_m, ↓dIter_m, ↓dRange1_m, ↓dPart_m, ↓gtCons_m, ↓gtNil_m, ↓gtTup_m, ↓sPar_m, ↓oAdd_m, ↓oInt_m, ↓oNeg_m, ↓oOrd_m, ↓oIx_m, ↓oLen_m, ↓oToInt_m, ↓oToTup_m, ↓oToList_m, ↓oGet1_m, ↓oUpper_m, ↓oToStr_m, ↓oPop_m, ↓oAppend_m, ↓oPut_m, ↓oSIndex_m, ↓atI_m, ↓getK_m, ↓oSl, ↓oRev, ↓oIsi_T, ↓oMax2I, ↓oMulI, ↓eqI, ↓eqS, ↓eqL, ↓eqT, ↓neI, ↓neS, ↓neL, ↓neT, vw_non, vw_bl, vw_int, vw_str, vw_tup, vw_lst, vw_dic, vw_raw, vw_obj, truD, keyD, itemsOf, mthTy, lenD, seqD, List.map_cons, List.map_nil, List.cons_append, List.nil_append, List.getElem?_cons_zero, List.getElem?_cons_succ, List.getElem?_nil, List.set_cons_zero, List.set_cons_succ, List.length_cons, List.length_nil, ↓reduceIte, Bool.not_true, Bool.not_false, Bool.false_eq_true, true_and, and_true, List.replicate_zero, List.replicate_succ, List.append_nil]
  refine ⟨d, rfl, hd, ?_⟩
  simp only [↓sSeq_u, ↓sNext_u, ↓sBreak_u, ↓sCont_u, ↓sDrop_u, ↓sRet_u, ↓sRetN_u, ↓sIf_u, ↓sAsg_u, ↓sPut_u, ↓sFor_u, ↓dC_u, ↓dNil_u, ↓dCons_u, ↓dBlt_u, ↓dOp2_u, ↓dUn_u, ↓dMeth_u, ↓dCall_u, ↓dCallK_u, ↓dNotT_u, ↓dAndT_u, ↓dOrT_u, ↓dIf_u, ↓dTup_u, ↓dLst_u, ↓dLstO_u, ↓dSl_u, ↓dNoPart_u, ↓dRev_u, ↓dYes_u, ↓dDic0_u, ↓dLc_u, ↓dEnum_u, ↓dZip_u, ↓gtName_u, ↓dSortSet_u, ↓dSetK_u, ↓dDisp_u, ↓dVar_m, ↓dTru_m, ↓dAnd_m, ↓dOr_m, ↓dNot_m, ↓dChain_m, ↓dIter_m, ↓dRange1_m, ↓dPart_m, ↓gtCons_m, ↓gtNil_m, ↓gtTup_m, ↓sPar_m, ↓oAdd_m, ↓oInt_m, ↓oNeg_m, ↓oOrd_m, ↓oIx_m, ↓oLen_m, ↓oToInt_m, ↓oToTup_m, ↓oToList_m, ↓oGet1_m, ↓oUpper_m, ↓oToStr_m, ↓oPop_m, ↓oAppend_m, ↓oPut_m, ↓oSIndex_m, ↓atI_m, ↓getK_m, ↓oSl, ↓oRev, ↓oIsi_T, ↓oMax2I, ↓oMulI, ↓eqI, ↓eqS, ↓eqL, ↓eqT, ↓neI, ↓neS, ↓neL, ↓neT, vw_non, vw_bl, vw_int, vw_str, vw_tup, vw_lst, vw_dic, vw_raw, vw_obj, truD, keyD, itemsOf, mthTy, lenD, seqD, List.map_cons, List.map_nil, List.cons_append, List.nil_append, List.getElem?_cons_zero, List.getElem?_cons_succ, List.getElem?_nil, List.set_cons_zero, List.set_cons_succ, List.length_cons, List.length_nil, ↓reduceIte, Bool.not_true, Bool.not_false, Bool.false_eq_true, true_and, and_true, List.replicate_zero, List.replicate_succ, List.append_nil, e]
  cases d <;> first | exact q | (simp [plV] at hd; done) | skip
  rename_i i
  simp only [isI, Ord4.iB, isB] at q ⊢
  by_cases h1 : a ≤ i
  · simpa [h1] using q
  · simpa [h1] using q
def spRow : DSp := fun M ds Q => ∃ (d : D) (n : Int), ds = [d, .int n] ∧ plP d ∧ Q (.bl (isR n d)) M
theorem dl_is_row {M : St3} {ds : List D} {Q : KD} (h : spRow M ds Q) : td_is_row (E0 Q) (ds.map some ++ List.replicate 0 none) M := by
  obtain ⟨d, n, rfl, hd, q⟩ := h
  have e : vw M d = d := pl_vw hd
  have t := pl_ty hd
  simp only [td_is_row, ↓sSeq_u, ↓sNext_u, ↓sBreak_u, ↓sCont_u, ↓sDrop_u, ↓sRet_u, ↓sRetN_u, ↓sIf_u, ↓sAsg_u, ↓sPut_u, ↓sFor_u, ↓dC_u, ↓dNil_u, ↓dCons_u, ↓dBlt_u, ↓dOp2_u, ↓dUn_u, ↓dMeth_u, ↓dCall_u, ↓dCallK_u, ↓dNotT_u, ↓dAndT_u, ↓dOrT_u, ↓dIf_u, ↓dTup_u, ↓dLst_u, ↓dLstO_u, ↓dSl_u, ↓dNoPart_u, ↓dRev_u, ↓dYes_u, ↓dDic0_u, ↓dLc_u, ↓dEnum_u, ↓dZip_u, ↓gtName_u, ↓dSortSet_u, ↓dSetK_u, ↓dDisp_u, ↓dVar_m, ↓dTru_m, ↓dAnd_m, ↓dOr_m, ↓dNot_m, ↓dChain_m, ↓dIter_m, ↓dRange1_m, ↓dPart_m, ↓gtCons_m, ↓gtNil_m, ↓gtTup_m, ↓sPar_m, ↓oAdd_m, ↓oInt_m, ↓oNeg_m, ↓oOrd_m, ↓oIx_m, ↓oLen_m, ↓oToInt_m, ↓oToTup_m, ↓oToList_m, ↓oGet1_m, ↓oUpper_m, ↓oToStr_m, ↓oPop_m, ↓oAppend_m, ↓oPut_m, ↓oSIndex_m, ↓atI_m, ↓getK_m, ↓oSl, ↓oRev, ↓oIsi_T, ↓oMax2I, ↓oMulI, ↓eqI, ↓eqS, ↓eqL, ↓eqT, ↓neI, ↓neS, ↓neL, ↓neT, vw_non, vw_bl, vw_int, vw_str, vw_tup, vw_lst, vw_dic, vw_raw, vw_obj, truD, keyD, itemsOf, mthTy, lenD, seqD, List.map_cons, List.map_nil, List.cons_append, List.nil_append, List.getElem?_cons_zero, List.getElem?_cons_succ, List.getElem?_nil, List.set_cons_zero, List.set_cons_succ, List.length_cons, List.length_nil, ↓reduceIte, Bool.not_true, Bool.not_false, Bool.false_eq_true, true_and, and_true, List.replicate_zero, List.replicate_succ, List.append_nil, e, kt_t]
  refine ⟨t, ?_⟩
  cases d <;> first | exact q | (simp [plV] at hd; done)
/-! words -/
theorem signs_mem {x : Str} {d : D} (h : d ∈ signs x) : ∃ c, c ∈ x.cps.toList ∧ d = .str ⟨#[c]⟩ := by
  unfold signs at h
  obtain ⟨c, hc, rfl⟩ := List.mem_map.mp h
  exact ⟨c, hc, rfl⟩
theorem signs_len (x : Str) : (signs x).length = x.length := by unfold signs; rw [List.length_map]; exact Array.length_toList ..
theorem filter_T {α : Type} (xs : List α) : xs.filter (fun _ => true) = xs := List.filter_eq_self.mpr fun _ _ => rfl
def truB : D → Bool | .bl b => b | _ => false
def inL : D → D | .str c => .bl (inStr c letters) | _ => .non
theorem dl_is_name {M : St3} {ds : List D} {Q : KD} (h : sp1 plP (fun d => .bl (isW d)) M ds Q) : td_is_name (E0 Q) (ds.map some ++ List.replicate 1 none) M := by
  obtain ⟨d, rfl, hd, q⟩ := h
  have e : vw M d = d := pl_vw hd
  have t := pl_ty hd
  simp only [td_is_name, ↓sSeq_u, ↓sNext_u, ↓sBreak_u, ↓sCont_u, ↓sDrop_u, ↓sRet_u, ↓sRetN_u, ↓sIf_u, ↓sAsg_u, ↓sPut_u, ↓sFor_u, ↓dC_u, ↓dNil_u, ↓dCons_u, ↓dBlt_u, ↓dOp2_u, ↓dUn_u, ↓dMeth_u, ↓dCall_u, ↓dCallK_u, ↓dNotT_u, ↓dAndT_u, ↓dOrT_u, ↓dIf_u, ↓dTup_u, ↓dLst_u, ↓dLstO_u, ↓dSl_u, ↓dNoPart_u, ↓dRev_u, ↓dYes_u, ↓dDic0_u, ↓dLc_u, ↓dEnum_u, ↓dZip_u, ↓gtName_u, ↓dSortSet_u, ↓dSetK_u, ↓dDisp_u, ↓dVar_m, ↓dTru_m, ↓dAnd_m, ↓dOr_m, ↓dNot_m, ↓dChain_m, ↓dIter_m, ↓dRange1_m, ↓dPart_m, ↓gtCons_m, ↓gtNil_m, ↓gtTup_m, ↓sPar_m, ↓oAdd_m, ↓oInt_m, ↓oNeg_m, ↓oOrd_m, ↓oIx_m, ↓oLen_m, ↓oToInt_m, ↓oToTup_m, ↓oToList_m, ↓oGet1_m, ↓oUpper_m, ↓oToStr_m, ↓oPop_m, ↓oAppend_m, ↓oPut_m, ↓oSIndex_m, ↓atI_m, ↓getK_m, ↓oSl, ↓oRev, ↓oIsi_T, ↓oMax2I, ↓oMulI, ↓eqI, ↓eqS, ↓eqL, ↓eqT, ↓neI, ↓neS, ↓neL, ↓neT, vw_non, vw_bl, vw_int, vw_str, vw_tup, vw_lst, vw_dic, vw_raw, vw_obj, truD, keyD, itemsOf, mthTy, lenD, seqD, List.map_cons, List.map_nil, List.cons_append, List.nil_append, List.getElem?_cons_zero, List.getElem?_cons_succ, List.getElem?_nil, List.set_cons_zero, List.set_cons_succ, List.length_cons, List.length_nil, ↓reduceIte, Bool.not_true, Bool.not_false, Bool.false_eq_true, true_and, and_true, List.replicate_zero, List.replicate_succ, List.append_nil, e, kt_s]
  refine ⟨t, ?_⟩
  cases d <;> first | exact q | (simp [plV] at hd; done) | skip
  rename_i x
  have hx : x.length ≤ 3000 := by simpa [plP, plV] using hd
  have e1 : isaD (.str x) "str" = true := rfl
  simp only [e1, ↓sSeq_u, ↓sNext_u, ↓sBreak_u, ↓sCont_u, ↓sDrop_u, ↓sRet_u, ↓sRetN_u, ↓sIf_u, ↓sAsg_u, ↓sPut_u, ↓sFor_u, ↓dC_u, ↓dNil_u, ↓dCons_u, ↓dBlt_u, ↓dOp2_u, ↓dUn_u, ↓dMeth_u, ↓dCall_u, ↓dCallK_u, ↓dNotT_u, ↓dAndT_u, ↓dOrT_u, ↓dIf_u, ↓dTup_u, ↓dLst_u, ↓dLstO_u, ↓dSl_u, ↓dNoPart_u, ↓dRev_u, ↓dYes_u, ↓dDic0_u, ↓dLc_u, ↓dEnum_u, ↓dZip_u, ↓gtName_u, ↓dSortSet_u, ↓dSetK_u, ↓dDisp_u, ↓dVar_m, ↓dTru_m, ↓dAnd_m, ↓dOr_m, ↓dNot_m, ↓dChain_m, ↓dIter_m, ↓dRange1_m, ↓dPart_m, ↓gtCons_m, ↓gtNil_m, ↓gtTup_m, ↓sPar_m, ↓oAdd_m, ↓oInt_m, ↓oNeg_m, ↓oOrd_m, ↓oIx_m, ↓oLen_m, ↓oToInt_m, ↓oToTup_m, ↓oToList_m, ↓oGet1_m, ↓oUpper_m, ↓oToStr_m, ↓oPop_m, ↓oAppend_m, ↓oPut_m, ↓oSIndex_m, ↓atI_m, ↓getK_m, ↓oSl, ↓oRev, ↓oIsi_T, ↓oMax2I, ↓oMulI, ↓eqI, ↓eqS, ↓eqL, ↓eqT, ↓neI, ↓neS, ↓neL, ↓neT, vw_non, vw_bl, vw_int, vw_str, vw_tup, vw_lst, vw_dic, vw_raw, vw_obj, truD, keyD, itemsOf, mthTy, lenD, seqD, List.map_cons, List.map_nil, List.cons_append, List.nil_append, List.getElem?_cons_zero, List.getElem?_cons_succ, List.getElem?_nil, List.set_cons_zero, List.set_cons_succ, List.length_cons, List.length_nil, ↓reduceIte, Bool.not_true, Bool.not_false, Bool.false_eq_true, true_and, and_true, List.replicate_zero, List.replicate_succ, List.append_nil, Ord4.iB, isW, wordS] at q ⊢
  by_cases h1 : (1 : Int) ≤ x.length
  · have h1' : 1 ≤ x.length := by omega
    by_cases h2 : (x.length : Int) ≤ 10
    · have h2' : x.length ≤ 10 := by omega
      simp only [h1, h2, h1', h2', decide_true, Bool.true_and, ↓sSeq_u, ↓sNext_u, ↓sBreak_u, ↓sCont_u, ↓sDrop_u, ↓sRet_u, ↓sRetN_u, ↓sIf_u, ↓sAsg_u, ↓sPut_u, ↓sFor_u, ↓dC_u, ↓dNil_u, ↓dCons_u, ↓dBlt_u, ↓dOp2_u, ↓dUn_u, ↓dMeth_u, ↓dCall_u, ↓dCallK_u, ↓dNotT_u, ↓dAndT_u, ↓dOrT_u, ↓dIf_u, ↓dTup_u, ↓dLst_u, ↓dLstO_u, ↓dSl_u, ↓dNoPart_u, ↓dRev_u, ↓dYes_u, ↓dDic0_u, ↓dLc_u, ↓dEnum_u, ↓dZip_u, ↓gtName_u, ↓dSortSet_u, ↓dSetK_u, ↓dDisp_u, ↓dVar_m, ↓dTru_m, ↓dAnd_m, ↓dOr_m, ↓dNot_m, ↓dChain_m, ↓dIter_m, ↓dRange1_m, ↓dPart_m, ↓gtCons_m, ↓gtNil_m, ↓gtTup_m, ↓sPar_m, ↓oAdd_m, ↓oInt_m, ↓oNeg_m, ↓oOrd_m, ↓oIx_m, ↓oLen_m, ↓oToInt_m, ↓oToTup_m, ↓oToList_m, ↓oGet1_m, ↓oUpper_m, ↓oToStr_m, ↓oPop_m, ↓oAppend_m, ↓oPut_m, ↓oSIndex_m, ↓atI_m, ↓getK_m, ↓oSl, ↓oRev, ↓oIsi_T, ↓oMax2I, ↓oMulI, ↓eqI, ↓eqS, ↓eqL, ↓eqT, ↓neI, ↓neS, ↓neL, ↓neT, vw_non, vw_bl, vw_int, vw_str, vw_tup, vw_lst, vw_dic, vw_raw, vw_obj, truD, keyD, itemsOf, mthTy, lenD, seqD, List.map_cons, List.map_nil, List.cons_append, List.nil_append, List.getElem?_cons_zero, List.getElem?_cons_succ, List.getElem?_nil, List.set_cons_zero, List.set_cons_succ, List.length_cons, List.length_nil, ↓reduceIte, Bool.not_true, Bool.not_false, Bool.false_eq_true, true_and, and_true, List.replicate_zero, List.replicate_succ, List.append_nil] at q ⊢
      refine lcGo_pure (fun _ => true) inL trivial (by rw [signs_len]; exact sz_le (by simp; omega)) (fun y hy Kn Ks k1 k2 => ?_) ?_
      · obtain ⟨c, _, rfl⟩ := signs_mem hy
        exact ⟨_, rfl, _, _, rfl, _, rfl, by simpa [inL] using k1 rfl⟩
      · rw [oAll_m]
        refine ⟨x.cps.toList.map letC, ?_, ?_⟩
        · rw [filter_T]
          simp only [signs, List.map_map, List.nil_append]
          rfl
        · rw [List.all_map]; exact q
    · have h2' : ¬ (x.length ≤ 10) := by omega
      simpa [h1, h2, h1', h2'] using q
  · have h1' : ¬ (1 ≤ x.length) := by omega
    simpa [h1, h1'] using q
end L3.K55
namespace L3.K55
open PySem PySem.Spec PyProof.Rows L2
theorem sp1_m {C : D → Prop} {f : D → D} {M : St3} {d : D} {Q : KD} : sp1 C f M [d] Q = (C d ∧ Q (f d) M) := by
  unfold sp1; simp
theorem spRow_m {M : St3} {d : D} {n : Int} {Q : KD} : spRow M [d, .int n] Q = (plP d ∧ Q (.bl (isR n d)) M) := by
  unfold spRow; simp [ex2]
def spRis : DSp := fun M ds Q => ∃ xs : List Str, ds = [.lst (xs.map .str)] ∧ xs.length ≤ 3000 ∧ Q (.bl (risS xs)) M
theorem map_str_inj {xs ys : List Str} (h : xs.map D.str = ys.map D.str) : xs = ys := by
  induction xs generalizing ys with
  | nil => cases ys with | nil => rfl | cons _ _ => simp at h
  | cons x xs ih => cases ys with
    | nil => simp at h
    | cons y ys => simp only [List.map_cons, List.cons.injEq, D.str.injEq] at h; rw [h.1, ih h.2]
theorem spRis_m {M : St3} {xs : List Str} {Q : KD} : spRis M [.lst (xs.map .str)] Q = (xs.length ≤ 3000 ∧ Q (.bl (risS xs)) M) := by
  unfold spRis
  simp only [List.cons.injEq, and_true, D.lst.injEq, eq_iff_iff]
  exact ⟨fun ⟨ys, e, h⟩ => by rw [map_str_inj e]; exact h, fun h => ⟨xs, rfl, h⟩⟩
theorem cut1 (xs : List D) : cutD xs (some 1) none = xs.drop 1 := by
  unfold cutD HT.sIx
  simp only [Int.reduceLT, if_false]
  show List.take (xs.length - min (Int.toNat 1) xs.length) (List.drop (min (Int.toNat 1) xs.length) xs) = _
  rw [show Int.toNat 1 = 1 from rfl]
  rcases xs with _ | ⟨x, r⟩
  · rfl
  · have : min 1 (x :: r).length = 1 := by simp
    rw [this]; simp
theorem zip_str : ∀ (xs ys : List Str), zipD (xs.map .str) (ys.map .str) = (xs.zip ys).map fun p => D.tup [.str p.1, .str p.2]
  | [], _ => by simp [zipD]
  | _ :: _, [] => by simp [zipD]
  | x :: xs, y :: ys => by
    have := zip_str xs ys
    unfold zipD at this ⊢
    simp only [List.map_cons, List.zipWith_cons_cons, List.zip_cons_cons, this]
def ltP : D → D | .tup [.str a, .str b] => .bl (decide (a.cps.toList < b.cps.toList)) | _ => .non
theorem dl_is_rising {M : St3} {ds : List D} {Q : KD} (h : spRis M ds Q) : td_is_rising (E0 Q) (ds.map some ++ List.replicate 2 none) M := by
  obtain ⟨xs, rfl, hl, q⟩ := h
  simp only [td_is_rising, ↓sSeq_u, ↓sNext_u, ↓sBreak_u, ↓sCont_u, ↓sDrop_u, ↓sRet_u, ↓sRetN_u, ↓sIf_u, ↓sAsg_u, ↓sPut_u, ↓sFor_u, ↓dC_u, ↓dNil_u, ↓dCons_u, ↓dBlt_u, ↓dOp2_u, ↓dUn_u, ↓dMeth_u, ↓dCall_u, ↓dCallK_u, ↓dNotT_u, ↓dAndT_u, ↓dOrT_u, ↓dIf_u, ↓dTup_u, ↓dLst_u, ↓dLstO_u, ↓dSl_u, ↓dNoPart_u, ↓dRev_u, ↓dYes_u, ↓dDic0_u, ↓dLc_u, ↓dEnum_u, ↓dZip_u, ↓gtName_u, ↓dSortSet_u, ↓dSetK_u, ↓dDisp_u, ↓dVar_m, ↓dTru_m, ↓dAnd_m, ↓dOr_m, ↓dNot_m, ↓dChain_m, ↓dIter_m, ↓dRange1_m, ↓dPart_m, ↓gtCons_m, ↓gtNil_m, ↓gtTup_m, ↓sPar_m, ↓oAdd_m, ↓oInt_m, ↓oNeg_m, ↓oOrd_m, ↓oIx_m, ↓oLen_m, ↓oToInt_m, ↓oToTup_m, ↓oToList_m, ↓oGet1_m, ↓oUpper_m, ↓oToStr_m, ↓oPop_m, ↓oAppend_m, ↓oPut_m, ↓oSIndex_m, ↓atI_m, ↓getK_m, ↓oSl, ↓oRev, ↓oIsi_T, ↓oMax2I, ↓oMulI, ↓eqI, ↓eqS, ↓eqL, ↓eqT, ↓neI, ↓neS, ↓neL, ↓neT, vw_non, vw_bl, vw_int, vw_str, vw_tup, vw_lst, vw_dic, vw_raw, vw_obj, truD, keyD, itemsOf, mthTy, lenD, seqD, List.map_cons, List.map_nil, List.cons_append, List.nil_append, List.getElem?_cons_zero, List.getElem?_cons_succ, List.getElem?_nil, List.set_cons_zero, List.set_cons_succ, List.length_cons, List.length_nil, ↓reduceIte, Bool.not_true, Bool.not_false, Bool.false_eq_true, true_and, and_true, List.replicate_zero, List.replicate_succ, List.append_nil, ↓sp1_m, ↓spRow_m, ↓spRis_m, cut1]
  refine .inl ⟨_, _, _, _, rfl, rfl, rfl, ?_⟩
  refine lcGo_pure (fun _ => true) ltP ⟨trivial, trivial⟩ (by simp only [zipD, List.length_zipWith, List.length_nil]; exact sz_le (by simp; omega)) (fun y hy Kn Ks k1 k2 => ?_) ?_
  · rw [← List.map_drop, zip_str] at hy
    obtain ⟨p, hp, rfl⟩ := List.mem_map.mp hy
    simp only [↓sSeq_u, ↓sNext_u, ↓sBreak_u, ↓sCont_u, ↓sDrop_u, ↓sRet_u, ↓sRetN_u, ↓sIf_u, ↓sAsg_u, ↓sPut_u, ↓sFor_u, ↓dC_u, ↓dNil_u, ↓dCons_u, ↓dBlt_u, ↓dOp2_u, ↓dUn_u, ↓dMeth_u, ↓dCall_u, ↓dCallK_u, ↓dNotT_u, ↓dAndT_u, ↓dOrT_u, ↓dIf_u, ↓dTup_u, ↓dLst_u, ↓dLstO_u, ↓dSl_u, ↓dNoPart_u, ↓dRev_u, ↓dYes_u, ↓dDic0_u, ↓dLc_u, ↓dEnum_u, ↓dZip_u, ↓gtName_u, ↓dSortSet_u, ↓dSetK_u, ↓dDisp_u, ↓dVar_m, ↓dTru_m, ↓dAnd_m, ↓dOr_m, ↓dNot_m, ↓dChain_m, ↓dIter_m, ↓dRange1_m, ↓dPart_m, ↓gtCons_m, ↓gtNil_m, ↓gtTup_m, ↓sPar_m, ↓oAdd_m, ↓oInt_m, ↓oNeg_m, ↓oOrd_m, ↓oIx_m, ↓oLen_m, ↓oToInt_m, ↓oToTup_m, ↓oToList_m, ↓oGet1_m, ↓oUpper_m, ↓oToStr_m, ↓oPop_m, ↓oAppend_m, ↓oPut_m, ↓oSIndex_m, ↓atI_m, ↓getK_m, ↓oSl, ↓oRev, ↓oIsi_T, ↓oMax2I, ↓oMulI, ↓eqI, ↓eqS, ↓eqL, ↓eqT, ↓neI, ↓neS, ↓neL, ↓neT, vw_non, vw_bl, vw_int, vw_str, vw_tup, vw_lst, vw_dic, vw_raw, vw_obj, truD, keyD, itemsOf, mthTy, lenD, seqD, List.map_cons, List.map_nil, List.cons_append, List.nil_append, List.getElem?_cons_zero, List.getElem?_cons_succ, List.getElem?_nil, List.set_cons_zero, List.set_cons_succ, List.length_cons, List.length_nil, ↓reduceIte, Bool.not_true, Bool.not_false, Bool.false_eq_true, true_and, and_true, List.replicate_zero, List.replicate_succ, List.append_nil, ↓sp1_m, ↓spRow_m, ↓spRis_m, wipe3]
    have := k1 rfl
    refine ⟨⟨rfl, rfl, rfl, by simp [D.toP], .inl (by simp [dDep, D.toP, PyData.depth])⟩, ?_⟩
    simp only [Ord4.dB, D.toP, PySem.W.dataLt_str]
    exact this
  · simp only [↓sSeq_u, ↓sNext_u, ↓sBreak_u, ↓sCont_u, ↓sDrop_u, ↓sRet_u, ↓sRetN_u, ↓sIf_u, ↓sAsg_u, ↓sPut_u, ↓sFor_u, ↓dC_u, ↓dNil_u, ↓dCons_u, ↓dBlt_u, ↓dOp2_u, ↓dUn_u, ↓dMeth_u, ↓dCall_u, ↓dCallK_u, ↓dNotT_u, ↓dAndT_u, ↓dOrT_u, ↓dIf_u, ↓dTup_u, ↓dLst_u, ↓dLstO_u, ↓dSl_u, ↓dNoPart_u, ↓dRev_u, ↓dYes_u, ↓dDic0_u, ↓dLc_u, ↓dEnum_u, ↓dZip_u, ↓gtName_u, ↓dSortSet_u, ↓dSetK_u, ↓dDisp_u, ↓dVar_m, ↓dTru_m, ↓dAnd_m, ↓dOr_m, ↓dNot_m, ↓dChain_m, ↓dIter_m, ↓dRange1_m, ↓dPart_m, ↓gtCons_m, ↓gtNil_m, ↓gtTup_m, ↓sPar_m, ↓oAdd_m, ↓oInt_m, ↓oNeg_m, ↓oOrd_m, ↓oIx_m, ↓oLen_m, ↓oToInt_m, ↓oToTup_m, ↓oToList_m, ↓oGet1_m, ↓oUpper_m, ↓oToStr_m, ↓oPop_m, ↓oAppend_m, ↓oPut_m, ↓oSIndex_m, ↓atI_m, ↓getK_m, ↓oSl, ↓oRev, ↓oIsi_T, ↓oMax2I, ↓oMulI, ↓eqI, ↓eqS, ↓eqL, ↓eqT, ↓neI, ↓neS, ↓neL, ↓neT, vw_non, vw_bl, vw_int, vw_str, vw_tup, vw_lst, vw_dic, vw_raw, vw_obj, truD, keyD, itemsOf, mthTy, lenD, seqD, List.map_cons, List.map_nil, List.cons_append, List.nil_append, List.getElem?_cons_zero, List.getElem?_cons_succ, List.getElem?_nil, List.set_cons_zero, List.set_cons_succ, List.length_cons, List.length_nil, ↓reduceIte, Bool.not_true, Bool.not_false, Bool.false_eq_true, true_and, and_true, List.replicate_zero, List.replicate_succ, List.append_nil, ↓sp1_m, ↓spRow_m, ↓spRis_m]
    rw [oAll_m]
    refine ⟨(xs.zip (xs.drop 1)).map fun p => decide (p.1.cps.toList < p.2.cps.toList), ?_, ?_⟩
    · rw [filter_T, ← List.map_drop, zip_str, List.map_map, List.map_map]; rfl
    · rw [List.all_map]; exact q
/-! the page of a key -/
def okK (x : Str) : Prop := x.length ≤ 3000 ∧ x.cps.toList.all letC = true
def spPl : DSp := fun M ds Q => ∃ (x : Str) (m : Int), ds = [.str x, .int m] ∧ okK x ∧ 0 < m ∧ Q (.int (plS x m)) M
theorem spPl_m {M : St3} {x : Str} {m : Int} {Q : KD} : spPl M [.str x, .int m] Q = (okK x ∧ 0 < m ∧ Q (.int (plS x m)) M) := by
  unfold spPl; simp [ex2]
def idD : D → D | .str x => (match x.cps.toList with | [c] => .int (idx c) | _ => .non) | _ => .non
theorem idx_ok {c : Nat} (h : letC c = true) {p : Int → Prop} (q : p (idx c)) : (match Builtin.Str.occurrences letters ⟨#[c]⟩ 0 letters.length 1 with | i :: _ => p ((i : Nat) : Int) | [] => False) := by
  unfold letC inStr at h
  unfold idx at q
  cases e : Builtin.Str.occurrences letters ⟨#[c]⟩ 0 letters.length 1 with
  | nil => rw [e] at h; simp at h
  | cons i r => rw [e] at q; exact q
theorem dl_page_number {M : St3} {ds : List D} {Q : KD} (h : spPl M ds Q) : td_page_number (E0 Q) (ds.map some ++ List.replicate 1 none) M := by
  obtain ⟨x, m, rfl, ⟨hx, hw⟩, hm, q⟩ := h
  rw [List.all_eq_true] at hw
  simp only [td_page_number, ↓sSeq_u, ↓sNext_u, ↓sBreak_u, ↓sCont_u, ↓sDrop_u, ↓sRet_u, ↓sRetN_u, ↓sIf_u, ↓sAsg_u, ↓sPut_u, ↓sFor_u, ↓dC_u, ↓dNil_u, ↓dCons_u, ↓dBlt_u, ↓dOp2_u, ↓dUn_u, ↓dMeth_u, ↓dCall_u, ↓dCallK_u, ↓dNotT_u, ↓dAndT_u, ↓dOrT_u, ↓dIf_u, ↓dTup_u, ↓dLst_u, ↓dLstO_u, ↓dSl_u, ↓dNoPart_u, ↓dRev_u, ↓dYes_u, ↓dDic0_u, ↓dLc_u, ↓dEnum_u, ↓dZip_u, ↓gtName_u, ↓dSortSet_u, ↓dSetK_u, ↓dDisp_u, ↓dVar_m, ↓dTru_m, ↓dAnd_m, ↓dOr_m, ↓dNot_m, ↓dChain_m, ↓dIter_m, ↓dRange1_m, ↓dPart_m, ↓gtCons_m, ↓gtNil_m, ↓gtTup_m, ↓sPar_m, ↓oAdd_m, ↓oInt_m, ↓oNeg_m, ↓oOrd_m, ↓oIx_m, ↓oLen_m, ↓oToInt_m, ↓oToTup_m, ↓oToList_m, ↓oGet1_m, ↓oUpper_m, ↓oToStr_m, ↓oPop_m, ↓oAppend_m, ↓oPut_m, ↓oSIndex_m, ↓atI_m, ↓getK_m, ↓oSl, ↓oRev, ↓oIsi_T, ↓oMax2I, ↓oMulI, ↓eqI, ↓eqS, ↓eqL, ↓eqT, ↓neI, ↓neS, ↓neL, ↓neT, vw_non, vw_bl, vw_int, vw_str, vw_tup, vw_lst, vw_dic, vw_raw, vw_obj, truD, keyD, itemsOf, mthTy, lenD, seqD, List.map_cons, List.map_nil, List.cons_append, List.nil_append, List.getElem?_cons_zero, List.getElem?_cons_succ, List.getElem?_nil, List.set_cons_zero, List.set_cons_succ, List.length_cons, List.length_nil, ↓reduceIte, Bool.not_true, Bool.not_false, Bool.false_eq_true, true_and, and_true, List.replicate_zero, List.replicate_succ, List.append_nil, ↓sp1_m, ↓spRow_m, ↓spRis_m, ↓spPl_m]
  refine lcGo_pure (fun _ => true) idD trivial (by rw [signs_len]; exact sz_le (by simp; omega)) (fun y hy Kn Ks k1 k2 => ?_) ?_
  · obtain ⟨c, hc, rfl⟩ := signs_mem hy
    simp only [↓sSeq_u, ↓sNext_u, ↓sBreak_u, ↓sCont_u, ↓sDrop_u, ↓sRet_u, ↓sRetN_u, ↓sIf_u, ↓sAsg_u, ↓sPut_u, ↓sFor_u, ↓dC_u, ↓dNil_u, ↓dCons_u, ↓dBlt_u, ↓dOp2_u, ↓dUn_u, ↓dMeth_u, ↓dCall_u, ↓dCallK_u, ↓dNotT_u, ↓dAndT_u, ↓dOrT_u, ↓dIf_u, ↓dTup_u, ↓dLst_u, ↓dLstO_u, ↓dSl_u, ↓dNoPart_u, ↓dRev_u, ↓dYes_u, ↓dDic0_u, ↓dLc_u, ↓dEnum_u, ↓dZip_u, ↓gtName_u, ↓dSortSet_u, ↓dSetK_u, ↓dDisp_u, ↓dVar_m, ↓dTru_m, ↓dAnd_m, ↓dOr_m, ↓dNot_m, ↓dChain_m, ↓dIter_m, ↓dRange1_m, ↓dPart_m, ↓gtCons_m, ↓gtNil_m, ↓gtTup_m, ↓sPar_m, ↓oAdd_m, ↓oInt_m, ↓oNeg_m, ↓oOrd_m, ↓oIx_m, ↓oLen_m, ↓oToInt_m, ↓oToTup_m, ↓oToList_m, ↓oGet1_m, ↓oUpper_m, ↓oToStr_m, ↓oPop_m, ↓oAppend_m, ↓oPut_m, ↓oSIndex_m, ↓atI_m, ↓getK_m, ↓oSl, ↓oRev, ↓oIsi_T, ↓oMax2I, ↓oMulI, ↓eqI, ↓eqS, ↓eqL, ↓eqT, ↓neI, ↓neS, ↓neL, ↓neT, vw_non, vw_bl, vw_int, vw_str, vw_tup, vw_lst, vw_dic, vw_raw, vw_obj, truD, keyD, itemsOf, mthTy, lenD, seqD, List.map_cons, List.map_nil, List.cons_append, List.nil_append, List.getElem?_cons_zero, List.getElem?_cons_succ, List.getElem?_nil, List.set_cons_zero, List.set_cons_succ, List.length_cons, List.length_nil, ↓reduceIte, Bool.not_true, Bool.not_false, Bool.false_eq_true, true_and, and_true, List.replicate_zero, List.replicate_succ, List.append_nil, ↓sp1_m, ↓spRow_m, ↓spRis_m, ↓spPl_m, wipe3]
    exact idx_ok (hw c hc) (p := fun i => Ks (.int i) M) (k1 rfl)
  · rw [filter_T]
    simp only [↓sSeq_u, ↓sNext_u, ↓sBreak_u, ↓sCont_u, ↓sDrop_u, ↓sRet_u, ↓sRetN_u, ↓sIf_u, ↓sAsg_u, ↓sPut_u, ↓sFor_u, ↓dC_u, ↓dNil_u, ↓dCons_u, ↓dBlt_u, ↓dOp2_u, ↓dUn_u, ↓dMeth_u, ↓dCall_u, ↓dCallK_u, ↓dNotT_u, ↓dAndT_u, ↓dOrT_u, ↓dIf_u, ↓dTup_u, ↓dLst_u, ↓dLstO_u, ↓dSl_u, ↓dNoPart_u, ↓dRev_u, ↓dYes_u, ↓dDic0_u, ↓dLc_u, ↓dEnum_u, ↓dZip_u, ↓gtName_u, ↓dSortSet_u, ↓dSetK_u, ↓dDisp_u, ↓dVar_m, ↓dTru_m, ↓dAnd_m, ↓dOr_m, ↓dNot_m, ↓dChain_m, ↓dIter_m, ↓dRange1_m, ↓dPart_m, ↓gtCons_m, ↓gtNil_m, ↓gtTup_m, ↓sPar_m, ↓oAdd_m, ↓oInt_m, ↓oNeg_m, ↓oOrd_m, ↓oIx_m, ↓oLen_m, ↓oToInt_m, ↓oToTup_m, ↓oToList_m, ↓oGet1_m, ↓oUpper_m, ↓oToStr_m, ↓oPop_m, ↓oAppend_m, ↓oPut_m, ↓oSIndex_m, ↓atI_m, ↓getK_m, ↓oSl, ↓oRev, ↓oIsi_T, ↓oMax2I, ↓oMulI, ↓eqI, ↓eqS, ↓eqL, ↓eqT, ↓neI, ↓neS, ↓neL, ↓neT, vw_non, vw_bl, vw_int, vw_str, vw_tup, vw_lst, vw_dic, vw_raw, vw_obj, truD, keyD, itemsOf, mthTy, lenD, seqD, List.map_cons, List.map_nil, List.cons_append, List.nil_append, List.getElem?_cons_zero, List.getElem?_cons_succ, List.getElem?_nil, List.set_cons_zero, List.set_cons_succ, List.length_cons, List.length_nil, ↓reduceIte, Bool.not_true, Bool.not_false, Bool.false_eq_true, true_and, and_true, List.replicate_zero, List.replicate_succ, List.append_nil, ↓sp1_m, ↓spRow_m, ↓spRis_m, ↓spPl_m, ↓reduceIte]
    rw [oSum_m]
    refine ⟨x.cps.toList.map idx, ?_, ?_⟩
    · simp only [signs, List.map_map]; rfl
    · simp only [↓sSeq_u, ↓sNext_u, ↓sBreak_u, ↓sCont_u, ↓sDrop_u, ↓sRet_u, ↓sRetN_u, ↓sIf_u, ↓sAsg_u, ↓sPut_u, ↓sFor_u, ↓dC_u, ↓dNil_u, ↓dCons_u, ↓dBlt_u, ↓dOp2_u, ↓dUn_u, ↓dMeth_u, ↓dCall_u, ↓dCallK_u, ↓dNotT_u, ↓dAndT_u, ↓dOrT_u, ↓dIf_u, ↓dTup_u, ↓dLst_u, ↓dLstO_u, ↓dSl_u, ↓dNoPart_u, ↓dRev_u, ↓dYes_u, ↓dDic0_u, ↓dLc_u, ↓dEnum_u, ↓dZip_u, ↓gtName_u, ↓dSortSet_u, ↓dSetK_u, ↓dDisp_u, ↓dVar_m, ↓dTru_m, ↓dAnd_m, ↓dOr_m, ↓dNot_m, ↓dChain_m, ↓dIter_m, ↓dRange1_m, ↓dPart_m, ↓gtCons_m, ↓gtNil_m, ↓gtTup_m, ↓sPar_m, ↓oAdd_m, ↓oInt_m, ↓oNeg_m, ↓oOrd_m, ↓oIx_m, ↓oLen_m, ↓oToInt_m, ↓oToTup_m, ↓oToList_m, ↓oGet1_m, ↓oUpper_m, ↓oToStr_m, ↓oPop_m, ↓oAppend_m, ↓oPut_m, ↓oSIndex_m, ↓atI_m, ↓getK_m, ↓oSl, ↓oRev, ↓oIsi_T, ↓oMax2I, ↓oMulI, ↓eqI, ↓eqS, ↓eqL, ↓eqT, ↓neI, ↓neS, ↓neL, ↓neT, vw_non, vw_bl, vw_int, vw_str, vw_tup, vw_lst, vw_dic, vw_raw, vw_obj, truD, keyD, itemsOf, mthTy, lenD, seqD, List.map_cons, List.map_nil, List.cons_append, List.nil_append, List.getElem?_cons_zero, List.getElem?_cons_succ, List.getElem?_nil, List.set_cons_zero, List.set_cons_succ, List.length_cons, List.length_nil, ↓reduceIte, Bool.not_true, Bool.not_false, Bool.false_eq_true, true_and, and_true, List.replicate_zero, List.replicate_succ, List.append_nil, ↓sp1_m, ↓spRow_m, ↓spRis_m, ↓spPl_m]
      exact ⟨hm, q⟩
theorem dl_law_place {M : St3} {ds : List D} {Q : KD} (h : spPl M ds Q) : td_law_place (E0 Q) (ds.map some ++ List.replicate 2 none) M := by
  obtain ⟨x, m, rfl, ⟨hx, hw⟩, hm, q⟩ := h
  rw [List.all_eq_true] at hw
  simp only [td_law_place, ↓sSeq_u, ↓sNext_u, ↓sBreak_u, ↓sCont_u, ↓sDrop_u, ↓sRet_u, ↓sRetN_u, ↓sIf_u, ↓sAsg_u, ↓sPut_u, ↓sFor_u, ↓dC_u, ↓dNil_u, ↓dCons_u, ↓dBlt_u, ↓dOp2_u, ↓dUn_u, ↓dMeth_u, ↓dCall_u, ↓dCallK_u, ↓dNotT_u, ↓dAndT_u, ↓dOrT_u, ↓dIf_u, ↓dTup_u, ↓dLst_u, ↓dLstO_u, ↓dSl_u, ↓dNoPart_u, ↓dRev_u, ↓dYes_u, ↓dDic0_u, ↓dLc_u, ↓dEnum_u, ↓dZip_u, ↓gtName_u, ↓dSortSet_u, ↓dSetK_u, ↓dDisp_u, ↓dVar_m, ↓dTru_m, ↓dAnd_m, ↓dOr_m, ↓dNot_m, ↓dChain_m, ↓dIter_m, ↓dRange1_m, ↓dPart_m, ↓gtCons_m, ↓gtNil_m, ↓gtTup_m, ↓sPar_m, ↓oAdd_m, ↓oInt_m, ↓oNeg_m, ↓oOrd_m, ↓oIx_m, ↓oLen_m, ↓oToInt_m, ↓oToTup_m, ↓oToList_m, ↓oGet1_m, ↓oUpper_m, ↓oToStr_m, ↓oPop_m, ↓oAppend_m, ↓oPut_m, ↓oSIndex_m, ↓atI_m, ↓getK_m, ↓oSl, ↓oRev, ↓oIsi_T, ↓oMax2I, ↓oMulI, ↓eqI, ↓eqS, ↓eqL, ↓eqT, ↓neI, ↓neS, ↓neL, ↓neT, vw_non, vw_bl, vw_int, vw_str, vw_tup, vw_lst, vw_dic, vw_raw, vw_obj, truD, keyD, itemsOf, mthTy, lenD, seqD, List.map_cons, List.map_nil, List.cons_append, List.nil_append, List.getElem?_cons_zero, List.getElem?_cons_succ, List.getElem?_nil, List.set_cons_zero, List.set_cons_succ, List.length_cons, List.length_nil, ↓reduceIte, Bool.not_true, Bool.not_false, Bool.false_eq_true, true_and, and_true, List.replicate_zero, List.replicate_succ, List.append_nil, ↓sp1_m, ↓spRow_m, ↓spRis_m, ↓spPl_m]
  refine lcGo_pure (fun _ => true) idD trivial (by rw [signs_len]; exact sz_le (by simp; omega)) (fun y hy Kn Ks k1 k2 => ?_) ?_
  · obtain ⟨c, hc, rfl⟩ := signs_mem hy
    simp only [↓sSeq_u, ↓sNext_u, ↓sBreak_u, ↓sCont_u, ↓sDrop_u, ↓sRet_u, ↓sRetN_u, ↓sIf_u, ↓sAsg_u, ↓sPut_u, ↓sFor_u, ↓dC_u, ↓dNil_u, ↓dCons_u, ↓dBlt_u, ↓dOp2_u, ↓dUn_u, ↓dMeth_u, ↓dCall_u, ↓dCallK_u, ↓dNotT_u, ↓dAndT_u, ↓dOrT_u, ↓dIf_u, ↓dTup_u, ↓dLst_u, ↓dLstO_u, ↓dSl_u, ↓dNoPart_u, ↓dRev_u, ↓dYes_u, ↓dDic0_u, ↓dLc_u, ↓dEnum_u, ↓dZip_u, ↓gtName_u, ↓dSortSet_u, ↓dSetK_u, ↓dDisp_u, ↓dVar_m, ↓dTru_m, ↓dAnd_m, ↓dOr_m, ↓dNot_m, ↓dChain_m, ↓dIter_m, ↓dRange1_m, ↓dPart_m, ↓gtCons_m, ↓gtNil_m, ↓gtTup_m, ↓sPar_m, ↓oAdd_m, ↓oInt_m, ↓oNeg_m, ↓oOrd_m, ↓oIx_m, ↓oLen_m, ↓oToInt_m, ↓oToTup_m, ↓oToList_m, ↓oGet1_m, ↓oUpper_m, ↓oToStr_m, ↓oPop_m, ↓oAppend_m, ↓oPut_m, ↓oSIndex_m, ↓atI_m, ↓getK_m, ↓oSl, ↓oRev, ↓oIsi_T, ↓oMax2I, ↓oMulI, ↓eqI, ↓eqS, ↓eqL, ↓eqT, ↓neI, ↓neS, ↓neL, ↓neT, vw_non, vw_bl, vw_int, vw_str, vw_tup, vw_lst, vw_dic, vw_raw, vw_obj, truD, keyD, itemsOf, mthTy, lenD, seqD, List.map_cons, List.map_nil, List.cons_append, List.nil_append, List.getElem?_cons_zero, List.getElem?_cons_succ, List.getElem?_nil, List.set_cons_zero, List.set_cons_succ, List.length_cons, List.length_nil, ↓reduceIte, Bool.not_true, Bool.not_false, Bool.false_eq_true, true_and, and_true, List.replicate_zero, List.replicate_succ, List.append_nil, ↓sp1_m, ↓spRow_m, ↓spRis_m, ↓spPl_m, wipe3]
    exact idx_ok (hw c hc) (p := fun i => Ks (.int i) M) (k1 rfl)
  · rw [filter_T]
    simp only [↓sSeq_u, ↓sNext_u, ↓sBreak_u, ↓sCont_u, ↓sDrop_u, ↓sRet_u, ↓sRetN_u, ↓sIf_u, ↓sAsg_u, ↓sPut_u, ↓sFor_u, ↓dC_u, ↓dNil_u, ↓dCons_u, ↓dBlt_u, ↓dOp2_u, ↓dUn_u, ↓dMeth_u, ↓dCall_u, ↓dCallK_u, ↓dNotT_u, ↓dAndT_u, ↓dOrT_u, ↓dIf_u, ↓dTup_u, ↓dLst_u, ↓dLstO_u, ↓dSl_u, ↓dNoPart_u, ↓dRev_u, ↓dYes_u, ↓dDic0_u, ↓dLc_u, ↓dEnum_u, ↓dZip_u, ↓gtName_u, ↓dSortSet_u, ↓dSetK_u, ↓dDisp_u, ↓dVar_m, ↓dTru_m, ↓dAnd_m, ↓dOr_m, ↓dNot_m, ↓dChain_m, ↓dIter_m, ↓dRange1_m, ↓dPart_m, ↓gtCons_m, ↓gtNil_m, ↓gtTup_m, ↓sPar_m, ↓oAdd_m, ↓oInt_m, ↓oNeg_m, ↓oOrd_m, ↓oIx_m, ↓oLen_m, ↓oToInt_m, ↓oToTup_m, ↓oToList_m, ↓oGet1_m, ↓oUpper_m, ↓oToStr_m, ↓oPop_m, ↓oAppend_m, ↓oPut_m, ↓oSIndex_m, ↓atI_m, ↓getK_m, ↓oSl, ↓oRev, ↓oIsi_T, ↓oMax2I, ↓oMulI, ↓eqI, ↓eqS, ↓eqL, ↓eqT, ↓neI, ↓neS, ↓neL, ↓neT, vw_non, vw_bl, vw_int, vw_str, vw_tup, vw_lst, vw_dic, vw_raw, vw_obj, truD, keyD, itemsOf, mthTy, lenD, seqD, List.map_cons, List.map_nil, List.cons_append, List.nil_append, List.getElem?_cons_zero, List.getElem?_cons_succ, List.getElem?_nil, List.set_cons_zero, List.set_cons_succ, List.length_cons, List.length_nil, ↓reduceIte, Bool.not_true, Bool.not_false, Bool.false_eq_true, true_and, and_true, List.replicate_zero, List.replicate_succ, List.append_nil, ↓sp1_m, ↓spRow_m, ↓spRis_m, ↓spPl_m, ↓reduceIte]
    rw [oSum_m]
    refine ⟨x.cps.toList.map idx, ?_, ?_⟩
    · simp only [signs, List.map_map]; rfl
    · simp only [↓sSeq_u, ↓sNext_u, ↓sBreak_u, ↓sCont_u, ↓sDrop_u, ↓sRet_u, ↓sRetN_u, ↓sIf_u, ↓sAsg_u, ↓sPut_u, ↓sFor_u, ↓dC_u, ↓dNil_u, ↓dCons_u, ↓dBlt_u, ↓dOp2_u, ↓dUn_u, ↓dMeth_u, ↓dCall_u, ↓dCallK_u, ↓dNotT_u, ↓dAndT_u, ↓dOrT_u, ↓dIf_u, ↓dTup_u, ↓dLst_u, ↓dLstO_u, ↓dSl_u, ↓dNoPart_u, ↓dRev_u, ↓dYes_u, ↓dDic0_u, ↓dLc_u, ↓dEnum_u, ↓dZip_u, ↓gtName_u, ↓dSortSet_u, ↓dSetK_u, ↓dDisp_u, ↓dVar_m, ↓dTru_m, ↓dAnd_m, ↓dOr_m, ↓dNot_m, ↓dChain_m, ↓dIter_m, ↓dRange1_m, ↓dPart_m, ↓gtCons_m, ↓gtNil_m, ↓gtTup_m, ↓sPar_m, ↓oAdd_m, ↓oInt_m, ↓oNeg_m, ↓oOrd_m, ↓oIx_m, ↓oLen_m, ↓oToInt_m, ↓oToTup_m, ↓oToList_m, ↓oGet1_m, ↓oUpper_m, ↓oToStr_m, ↓oPop_m, ↓oAppend_m, ↓oPut_m, ↓oSIndex_m, ↓atI_m, ↓getK_m, ↓oSl, ↓oRev, ↓oIsi_T, ↓oMax2I, ↓oMulI, ↓eqI, ↓eqS, ↓eqL, ↓eqT, ↓neI, ↓neS, ↓neL, ↓neT, vw_non, vw_bl, vw_int, vw_str, vw_tup, vw_lst, vw_dic, vw_raw, vw_obj, truD, keyD, itemsOf, mthTy, lenD, seqD, List.map_cons, List.map_nil, List.cons_append, List.nil_append, List.getElem?_cons_zero, List.getElem?_cons_succ, List.getElem?_nil, List.set_cons_zero, List.set_cons_succ, List.length_cons, List.length_nil, ↓reduceIte, Bool.not_true, Bool.not_false, Bool.false_eq_true, true_and, and_true, List.replicate_zero, List.replicate_succ, List.append_nil, ↓sp1_m, ↓spRow_m, ↓spRis_m, ↓spPl_m]
      exact ⟨hm, q⟩
end L3.K55
namespace L3.K55
open PySem PySem.Spec PyProof.Rows L2
def spPg : DSp := fun M ds Q => ∃ (d : D) (a m : Int), ds = [d, .int a, .int m] ∧ plP d ∧ 0 < m ∧ Q (.bl (pgB a m d)) M
theorem spPg_m {M : St3} {d : D} {a m : Int} {Q : KD} : spPg M [d, .int a, .int m] Q = (plP d ∧ 0 < m ∧ Q (.bl (pgB a m d)) M) := by
  unfold spPg
  simp only [List.cons.injEq, D.int.injEq, and_true, eq_iff_iff]
  exact ⟨fun ⟨_, _, _, ⟨e1, e2, e3⟩, h⟩ => by subst e1 e2 e3; exact h, fun h => ⟨_, _, _, ⟨rfl, rfl, rfl⟩, h⟩⟩
theorem isR_inv {n : Int} {d : D} (h : isR n d = true) : ∃ xs, d = .tup xs ∧ (xs.length : Int) = n := by
  cases d <;> simp [isR] at h
  exact ⟨_, rfl, h⟩
theorem isR2 {d : D} (h : isR 2 d = true) : ∃ x y, d = .tup [x, y] := by
  obtain ⟨xs, rfl, hl⟩ := isR_inv h
  match xs, hl with
  | [x, y], _ => exact ⟨x, y, rfl⟩
  | [], hl => simp at hl
  | [_], hl => simp at hl
  | _ :: _ :: _ :: r, hl => simp at hl; omega
theorem pl2 {x y : D} (h : plP (.tup [x, y])) : plP x ∧ plP y := by
  have := (pl_tup h).2
  exact ⟨this x (by simp), this y (by simp)⟩
theorem at0 {x : D} {r : List D} : atI (x :: r) 0 = some x := by
  unfold atI ixN; simp
theorem at1 {x y : D} {r : List D} : atI (x :: y :: r) 1 = some y := by
  unfold atI ixN
  have h : (1 : Int) < ((x :: y :: r).length : Nat) := by simp; omega
  rw [if_pos (by decide), if_pos h]; rfl
theorem prB_of {p : D} : prB p = (isR 2 p && (match p with | .tup [k, w] => isW k && isI w | _ => false)) := by
  unfold prB
  split
  · simp [isR]
  · first
      | (split <;> simp_all)
      | simp
theorem isW_inv {d : D} (h : isW d = true) : ∃ x, d = .str x ∧ okK x := by
  cases d <;> simp [isW] at h
  rename_i x
  unfold wordS at h
  simp only [Bool.and_eq_true, decide_eq_true_eq] at h
  exact ⟨x, rfl, by omega, h.2.2⟩
theorem isI_inv {d : D} (h : isI d = true) : ∃ i, d = .int i := by
  cases d <;> simp [isI] at h
  exact ⟨_, rfl⟩
theorem prB_inv {p : D} (h : prB p = true) : ∃ (x : Str) (w : Int), p = .tup [.str x, .int w] ∧ okK x ∧ wordS x = true := by
  unfold prB at h
  split at h
  · simp only [Bool.and_eq_true] at h
    obtain ⟨x, rfl, hx⟩ := isW_inv h.1
    obtain ⟨i, rfl⟩ := isI_inv h.2
    exact ⟨x, i, rfl, hx, h.1⟩
  · cases h
def key1 (d : D) : D := .str (keyStr d)
def eqPl (a m : Int) : D → D | .str x => .bl (decide (plS x m = a)) | _ => .non
theorem bls {M : St3} {xs : List D} {f : D → Bool} {Q : KD} {g : D → D} (hg : ∀ x ∈ xs, g x = .bl (f x)) (q : Q (.bl (xs.all f)) M) : oAll M [.lst (xs.map g)] Q := by
  rw [oAll_m]
  refine ⟨xs.map f, ?_, ?_⟩
  · show D.lst _ = _
    rw [List.map_map]
    congr 1
    exact List.map_congr_left hg
  · rw [List.all_map]; exact q
theorem dl_is_page {M : St3} {ds : List D} {Q : KD} (h : spPg M ds Q) : td_is_page spRis spPl spRow (sp1 plP fun d => .bl (isW d)) (sp1 plP fun d => .bl (isI d)) (sp1 plP fun d => .bl (isC d)) (E0 Q) (ds.map some ++ List.replicate 4 none) M := by
  obtain ⟨d, a, m, rfl, hd, hm, q⟩ := h
  have e : vw M d = d := pl_vw hd
  have t0 := pl_ty hd
  by_cases hR : isR 2 d = true
  rotate_left
  · have hp : pgB a m d = false := by
      unfold pgB; split
      · simp [isR] at hR
      · rfl
    simp only [td_is_page, ↓sSeq_u, ↓sNext_u, ↓sBreak_u, ↓sCont_u, ↓sDrop_u, ↓sRet_u, ↓sRetN_u, ↓sIf_u, ↓sAsg_u, ↓sPut_u, ↓sFor_u, ↓dC_u, ↓dNil_u, ↓dCons_u, ↓dBlt_u, ↓dOp2_u, ↓dUn_u, ↓dMeth_u, ↓dCall_u, ↓dCallK_u, ↓dNotT_u, ↓dAndT_u, ↓dOrT_u, ↓dIf_u, ↓dTup_u, ↓dLst_u, ↓dLstO_u, ↓dSl_u, ↓dNoPart_u, ↓dRev_u, ↓dYes_u, ↓dDic0_u, ↓dLc_u, ↓dEnum_u, ↓dZip_u, ↓gtName_u, ↓dSortSet_u, ↓dSetK_u, ↓dDisp_u, ↓dVar_m, ↓dTru_m, ↓dAnd_m, ↓dOr_m, ↓dNot_m, ↓dChain_m, ↓dIter_m, ↓dRange1_m, ↓dPart_m, ↓gtCons_m, ↓gtNil_m, ↓gtTup_m, ↓sPar_m, ↓oAdd_m, ↓oInt_m, ↓oNeg_m, ↓oOrd_m, ↓oIx_m, ↓oLen_m, ↓oToInt_m, ↓oToTup_m, ↓oToList_m, ↓oGet1_m, ↓oUpper_m, ↓oToStr_m, ↓oPop_m, ↓oAppend_m, ↓oPut_m, ↓oSIndex_m, ↓atI_m, ↓getK_m, ↓oSl, ↓oRev, ↓oIsi_T, ↓oMax2I, ↓oMulI, ↓eqI, ↓eqS, ↓eqL, ↓eqT, ↓neI, ↓neS, ↓neL, ↓neT, vw_non, vw_bl, vw_int, vw_str, vw_tup, vw_lst, vw_dic, vw_raw, vw_obj, truD, keyD, itemsOf, mthTy, lenD, seqD, List.map_cons, List.map_nil, List.cons_append, List.nil_append, List.getElem?_cons_zero, List.getElem?_cons_succ, List.getElem?_nil, List.set_cons_zero, List.set_cons_succ, List.length_cons, List.length_nil, ↓reduceIte, Bool.not_true, Bool.not_false, Bool.false_eq_true, true_and, and_true, List.replicate_zero, List.replicate_succ, List.append_nil, ↓sp1_m, ↓spRow_m, ↓spRis_m, ↓spPl_m]
    refine ⟨hd, ?_⟩
    rw [hp] at q
    simp only [hR, ↓sSeq_u, ↓sNext_u, ↓sBreak_u, ↓sCont_u, ↓sDrop_u, ↓sRet_u, ↓sRetN_u, ↓sIf_u, ↓sAsg_u, ↓sPut_u, ↓sFor_u, ↓dC_u, ↓dNil_u, ↓dCons_u, ↓dBlt_u, ↓dOp2_u, ↓dUn_u, ↓dMeth_u, ↓dCall_u, ↓dCallK_u, ↓dNotT_u, ↓dAndT_u, ↓dOrT_u, ↓dIf_u, ↓dTup_u, ↓dLst_u, ↓dLstO_u, ↓dSl_u, ↓dNoPart_u, ↓dRev_u, ↓dYes_u, ↓dDic0_u, ↓dLc_u, ↓dEnum_u, ↓dZip_u, ↓gtName_u, ↓dSortSet_u, ↓dSetK_u, ↓dDisp_u, ↓dVar_m, ↓dTru_m, ↓dAnd_m, ↓dOr_m, ↓dNot_m, ↓dChain_m, ↓dIter_m, ↓dRange1_m, ↓dPart_m, ↓gtCons_m, ↓gtNil_m, ↓gtTup_m, ↓sPar_m, ↓oAdd_m, ↓oInt_m, ↓oNeg_m, ↓oOrd_m, ↓oIx_m, ↓oLen_m, ↓oToInt_m, ↓oToTup_m, ↓oToList_m, ↓oGet1_m, ↓oUpper_m, ↓oToStr_m, ↓oPop_m, ↓oAppend_m, ↓oPut_m, ↓oSIndex_m, ↓atI_m, ↓getK_m, ↓oSl, ↓oRev, ↓oIsi_T, ↓oMax2I, ↓oMulI, ↓eqI, ↓eqS, ↓eqL, ↓eqT, ↓neI, ↓neS, ↓neL, ↓neT, vw_non, vw_bl, vw_int, vw_str, vw_tup, vw_lst, vw_dic, vw_raw, vw_obj, truD, keyD, itemsOf, mthTy, lenD, seqD, List.map_cons, List.map_nil, List.cons_append, List.nil_append, List.getElem?_cons_zero, List.getElem?_cons_succ, List.getElem?_nil, List.set_cons_zero, List.set_cons_succ, List.length_cons, List.length_nil, ↓reduceIte, Bool.not_true, Bool.not_false, Bool.false_eq_true, true_and, and_true, List.replicate_zero, List.replicate_succ, List.append_nil, ↓sp1_m, ↓spRow_m, ↓spRis_m, ↓spPl_m]
    exact q
  obtain ⟨l, t, rfl⟩ := isR2 hR
  obtain ⟨hl, ht⟩ := pl2 hd
  have e1 : vw M l = l := pl_vw hl
  have e2 : vw M t = t := pl_vw ht
  have t2 := pl_ty ht
  simp only [td_is_page, ↓sSeq_u, ↓sNext_u, ↓sBreak_u, ↓sCont_u, ↓sDrop_u, ↓sRet_u, ↓sRetN_u, ↓sIf_u, ↓sAsg_u, ↓sPut_u, ↓sFor_u, ↓dC_u, ↓dNil_u, ↓dCons_u, ↓dBlt_u, ↓dOp2_u, ↓dUn_u, ↓dMeth_u, ↓dCall_u, ↓dCallK_u, ↓dNotT_u, ↓dAndT_u, ↓dOrT_u, ↓dIf_u, ↓dTup_u, ↓dLst_u, ↓dLstO_u, ↓dSl_u, ↓dNoPart_u, ↓dRev_u, ↓dYes_u, ↓dDic0_u, ↓dLc_u, ↓dEnum_u, ↓dZip_u, ↓gtName_u, ↓dSortSet_u, ↓dSetK_u, ↓dDisp_u, ↓dVar_m, ↓dTru_m, ↓dAnd_m, ↓dOr_m, ↓dNot_m, ↓dChain_m, ↓dIter_m, ↓dRange1_m, ↓dPart_m, ↓gtCons_m, ↓gtNil_m, ↓gtTup_m, ↓sPar_m, ↓oAdd_m, ↓oInt_m, ↓oNeg_m, ↓oOrd_m, ↓oIx_m, ↓oLen_m, ↓oToInt_m, ↓oToTup_m, ↓oToList_m, ↓oGet1_m, ↓oUpper_m, ↓oToStr_m, ↓oPop_m, ↓oAppend_m, ↓oPut_m, ↓oSIndex_m, ↓atI_m, ↓getK_m, ↓oSl, ↓oRev, ↓oIsi_T, ↓oMax2I, ↓oMulI, ↓eqI, ↓eqS, ↓eqL, ↓eqT, ↓neI, ↓neS, ↓neL, ↓neT, vw_non, vw_bl, vw_int, vw_str, vw_tup, vw_lst, vw_dic, vw_raw, vw_obj, truD, keyD, itemsOf, mthTy, lenD, seqD, List.map_cons, List.map_nil, List.cons_append, List.nil_append, List.getElem?_cons_zero, List.getElem?_cons_succ, List.getElem?_nil, List.set_cons_zero, List.set_cons_succ, List.length_cons, List.length_nil, ↓reduceIte, Bool.not_true, Bool.not_false, Bool.false_eq_true, true_and, and_true, List.replicate_zero, List.replicate_succ, List.append_nil, ↓sp1_m, ↓spRow_m, ↓spRis_m, ↓spPl_m, at0, at1, hR, e1, e2, kt_t]
  refine ⟨hd, hl, ?_⟩
  cases hC : isC l with
  | false =>
    have hp : pgB a m (.tup [l, t]) = false := by unfold pgB; split <;> simp_all
    rw [hp] at q; simp only [↓sSeq_u, ↓sNext_u, ↓sBreak_u, ↓sCont_u, ↓sDrop_u, ↓sRet_u, ↓sRetN_u, ↓sIf_u, ↓sAsg_u, ↓sPut_u, ↓sFor_u, ↓dC_u, ↓dNil_u, ↓dCons_u, ↓dBlt_u, ↓dOp2_u, ↓dUn_u, ↓dMeth_u, ↓dCall_u, ↓dCallK_u, ↓dNotT_u, ↓dAndT_u, ↓dOrT_u, ↓dIf_u, ↓dTup_u, ↓dLst_u, ↓dLstO_u, ↓dSl_u, ↓dNoPart_u, ↓dRev_u, ↓dYes_u, ↓dDic0_u, ↓dLc_u, ↓dEnum_u, ↓dZip_u, ↓gtName_u, ↓dSortSet_u, ↓dSetK_u, ↓dDisp_u, ↓dVar_m, ↓dTru_m, ↓dAnd_m, ↓dOr_m, ↓dNot_m, ↓dChain_m, ↓dIter_m, ↓dRange1_m, ↓dPart_m, ↓gtCons_m, ↓gtNil_m, ↓gtTup_m, ↓sPar_m, ↓oAdd_m, ↓oInt_m, ↓oNeg_m, ↓oOrd_m, ↓oIx_m, ↓oLen_m, ↓oToInt_m, ↓oToTup_m, ↓oToList_m, ↓oGet1_m, ↓oUpper_m, ↓oToStr_m, ↓oPop_m, ↓oAppend_m, ↓oPut_m, ↓oSIndex_m, ↓atI_m, ↓getK_m, ↓oSl, ↓oRev, ↓oIsi_T, ↓oMax2I, ↓oMulI, ↓eqI, ↓eqS, ↓eqL, ↓eqT, ↓neI, ↓neS, ↓neL, ↓neT, vw_non, vw_bl, vw_int, vw_str, vw_tup, vw_lst, vw_dic, vw_raw, vw_obj, truD, keyD, itemsOf, mthTy, lenD, seqD, List.map_cons, List.map_nil, List.cons_append, List.nil_append, List.getElem?_cons_zero, List.getElem?_cons_succ, List.getElem?_nil, List.set_cons_zero, List.set_cons_succ, List.length_cons, List.length_nil, ↓reduceIte, Bool.not_true, Bool.not_false, Bool.false_eq_true, true_and, and_true, List.replicate_zero, List.replicate_succ, List.append_nil, ↓sp1_m, ↓spRow_m, ↓spRis_m, ↓spPl_m]; exact q
  | true =>
  simp only [↓sSeq_u, ↓sNext_u, ↓sBreak_u, ↓sCont_u, ↓sDrop_u, ↓sRet_u, ↓sRetN_u, ↓sIf_u, ↓sAsg_u, ↓sPut_u, ↓sFor_u, ↓dC_u, ↓dNil_u, ↓dCons_u, ↓dBlt_u, ↓dOp2_u, ↓dUn_u, ↓dMeth_u, ↓dCall_u, ↓dCallK_u, ↓dNotT_u, ↓dAndT_u, ↓dOrT_u, ↓dIf_u, ↓dTup_u, ↓dLst_u, ↓dLstO_u, ↓dSl_u, ↓dNoPart_u, ↓dRev_u, ↓dYes_u, ↓dDic0_u, ↓dLc_u, ↓dEnum_u, ↓dZip_u, ↓gtName_u, ↓dSortSet_u, ↓dSetK_u, ↓dDisp_u, ↓dVar_m, ↓dTru_m, ↓dAnd_m, ↓dOr_m, ↓dNot_m, ↓dChain_m, ↓dIter_m, ↓dRange1_m, ↓dPart_m, ↓gtCons_m, ↓gtNil_m, ↓gtTup_m, ↓sPar_m, ↓oAdd_m, ↓oInt_m, ↓oNeg_m, ↓oOrd_m, ↓oIx_m, ↓oLen_m, ↓oToInt_m, ↓oToTup_m, ↓oToList_m, ↓oGet1_m, ↓oUpper_m, ↓oToStr_m, ↓oPop_m, ↓oAppend_m, ↓oPut_m, ↓oSIndex_m, ↓atI_m, ↓getK_m, ↓oSl, ↓oRev, ↓oIsi_T, ↓oMax2I, ↓oMulI, ↓eqI, ↓eqS, ↓eqL, ↓eqT, ↓neI, ↓neS, ↓neL, ↓neT, vw_non, vw_bl, vw_int, vw_str, vw_tup, vw_lst, vw_dic, vw_raw, vw_obj, truD, keyD, itemsOf, mthTy, lenD, seqD, List.map_cons, List.map_nil, List.cons_append, List.nil_append, List.getElem?_cons_zero, List.getElem?_cons_succ, List.getElem?_nil, List.set_cons_zero, List.set_cons_succ, List.length_cons, List.length_nil, ↓reduceIte, Bool.not_true, Bool.not_false, Bool.false_eq_true, true_and, and_true, List.replicate_zero, List.replicate_succ, List.append_nil, ↓sp1_m, ↓spRow_m, ↓spRis_m, ↓spPl_m]
  refine ⟨t2, ?_⟩
  by_cases hT : isaD t "tuple" = true
  rotate_left
  · have hp : pgB a m (.tup [l, t]) = false := by unfold pgB; split <;> simp_all [isaD, tyD]
    rw [hp] at q; simp only [hT, ↓sSeq_u, ↓sNext_u, ↓sBreak_u, ↓sCont_u, ↓sDrop_u, ↓sRet_u, ↓sRetN_u, ↓sIf_u, ↓sAsg_u, ↓sPut_u, ↓sFor_u, ↓dC_u, ↓dNil_u, ↓dCons_u, ↓dBlt_u, ↓dOp2_u, ↓dUn_u, ↓dMeth_u, ↓dCall_u, ↓dCallK_u, ↓dNotT_u, ↓dAndT_u, ↓dOrT_u, ↓dIf_u, ↓dTup_u, ↓dLst_u, ↓dLstO_u, ↓dSl_u, ↓dNoPart_u, ↓dRev_u, ↓dYes_u, ↓dDic0_u, ↓dLc_u, ↓dEnum_u, ↓dZip_u, ↓gtName_u, ↓dSortSet_u, ↓dSetK_u, ↓dDisp_u, ↓dVar_m, ↓dTru_m, ↓dAnd_m, ↓dOr_m, ↓dNot_m, ↓dChain_m, ↓dIter_m, ↓dRange1_m, ↓dPart_m, ↓gtCons_m, ↓gtNil_m, ↓gtTup_m, ↓sPar_m, ↓oAdd_m, ↓oInt_m, ↓oNeg_m, ↓oOrd_m, ↓oIx_m, ↓oLen_m, ↓oToInt_m, ↓oToTup_m, ↓oToList_m, ↓oGet1_m, ↓oUpper_m, ↓oToStr_m, ↓oPop_m, ↓oAppend_m, ↓oPut_m, ↓oSIndex_m, ↓atI_m, ↓getK_m, ↓oSl, ↓oRev, ↓oIsi_T, ↓oMax2I, ↓oMulI, ↓eqI, ↓eqS, ↓eqL, ↓eqT, ↓neI, ↓neS, ↓neL, ↓neT, vw_non, vw_bl, vw_int, vw_str, vw_tup, vw_lst, vw_dic, vw_raw, vw_obj, truD, keyD, itemsOf, mthTy, lenD, seqD, List.map_cons, List.map_nil, List.cons_append, List.nil_append, List.getElem?_cons_zero, List.getElem?_cons_succ, List.getElem?_nil, List.set_cons_zero, List.set_cons_succ, List.length_cons, List.length_nil, ↓reduceIte, Bool.not_true, Bool.not_false, Bool.false_eq_true, true_and, and_true, List.replicate_zero, List.replicate_succ, List.append_nil, ↓sp1_m, ↓spRow_m, ↓spRis_m, ↓spPl_m]; exact q
  obtain ⟨ps, rfl⟩ : ∃ ps, t = .tup ps := by
    cases t <;> first | exact ⟨_, rfl⟩ | (simp [isaD, tyD] at hT)
  simp only [hT, ↓sSeq_u, ↓sNext_u, ↓sBreak_u, ↓sCont_u, ↓sDrop_u, ↓sRet_u, ↓sRetN_u, ↓sIf_u, ↓sAsg_u, ↓sPut_u, ↓sFor_u, ↓dC_u, ↓dNil_u, ↓dCons_u, ↓dBlt_u, ↓dOp2_u, ↓dUn_u, ↓dMeth_u, ↓dCall_u, ↓dCallK_u, ↓dNotT_u, ↓dAndT_u, ↓dOrT_u, ↓dIf_u, ↓dTup_u, ↓dLst_u, ↓dLstO_u, ↓dSl_u, ↓dNoPart_u, ↓dRev_u, ↓dYes_u, ↓dDic0_u, ↓dLc_u, ↓dEnum_u, ↓dZip_u, ↓gtName_u, ↓dSortSet_u, ↓dSetK_u, ↓dDisp_u, ↓dVar_m, ↓dTru_m, ↓dAnd_m, ↓dOr_m, ↓dNot_m, ↓dChain_m, ↓dIter_m, ↓dRange1_m, ↓dPart_m, ↓gtCons_m, ↓gtNil_m, ↓gtTup_m, ↓sPar_m, ↓oAdd_m, ↓oInt_m, ↓oNeg_m, ↓oOrd_m, ↓oIx_m, ↓oLen_m, ↓oToInt_m, ↓oToTup_m, ↓oToList_m, ↓oGet1_m, ↓oUpper_m, ↓oToStr_m, ↓oPop_m, ↓oAppend_m, ↓oPut_m, ↓oSIndex_m, ↓atI_m, ↓getK_m, ↓oSl, ↓oRev, ↓oIsi_T, ↓oMax2I, ↓oMulI, ↓eqI, ↓eqS, ↓eqL, ↓eqT, ↓neI, ↓neS, ↓neL, ↓neT, vw_non, vw_bl, vw_int, vw_str, vw_tup, vw_lst, vw_dic, vw_raw, vw_obj, truD, keyD, itemsOf, mthTy, lenD, seqD, List.map_cons, List.map_nil, List.cons_append, List.nil_append, List.getElem?_cons_zero, List.getElem?_cons_succ, List.getElem?_nil, List.set_cons_zero, List.set_cons_succ, List.length_cons, List.length_nil, ↓reduceIte, Bool.not_true, Bool.not_false, Bool.false_eq_true, true_and, and_true, List.replicate_zero, List.replicate_succ, List.append_nil, ↓sp1_m, ↓spRow_m, ↓spRis_m, ↓spPl_m]
  obtain ⟨hps, hpp⟩ := pl_tup ht
  refine lcGo_pure (fun _ => true) (fun p => .bl (prB p)) trivial (by exact sz_le (by simp; omega)) (fun y hy Kn Ks k1 k2 => ?_) ?_
  · have hy' := hpp y hy
    have k1 := k1 rfl
    simp only [↓sSeq_u, ↓sNext_u, ↓sBreak_u, ↓sCont_u, ↓sDrop_u, ↓sRet_u, ↓sRetN_u, ↓sIf_u, ↓sAsg_u, ↓sPut_u, ↓sFor_u, ↓dC_u, ↓dNil_u, ↓dCons_u, ↓dBlt_u, ↓dOp2_u, ↓dUn_u, ↓dMeth_u, ↓dCall_u, ↓dCallK_u, ↓dNotT_u, ↓dAndT_u, ↓dOrT_u, ↓dIf_u, ↓dTup_u, ↓dLst_u, ↓dLstO_u, ↓dSl_u, ↓dNoPart_u, ↓dRev_u, ↓dYes_u, ↓dDic0_u, ↓dLc_u, ↓dEnum_u, ↓dZip_u, ↓gtName_u, ↓dSortSet_u, ↓dSetK_u, ↓dDisp_u, ↓dVar_m, ↓dTru_m, ↓dAnd_m, ↓dOr_m, ↓dNot_m, ↓dChain_m, ↓dIter_m, ↓dRange1_m, ↓dPart_m, ↓gtCons_m, ↓gtNil_m, ↓gtTup_m, ↓sPar_m, ↓oAdd_m, ↓oInt_m, ↓oNeg_m, ↓oOrd_m, ↓oIx_m, ↓oLen_m, ↓oToInt_m, ↓oToTup_m, ↓oToList_m, ↓oGet1_m, ↓oUpper_m, ↓oToStr_m, ↓oPop_m, ↓oAppend_m, ↓oPut_m, ↓oSIndex_m, ↓atI_m, ↓getK_m, ↓oSl, ↓oRev, ↓oIsi_T, ↓oMax2I, ↓oMulI, ↓eqI, ↓eqS, ↓eqL, ↓eqT, ↓neI, ↓neS, ↓neL, ↓neT, vw_non, vw_bl, vw_int, vw_str, vw_tup, vw_lst, vw_dic, vw_raw, vw_obj, truD, keyD, itemsOf, mthTy, lenD, seqD, List.map_cons, List.map_nil, List.cons_append, List.nil_append, List.getElem?_cons_zero, List.getElem?_cons_succ, List.getElem?_nil, List.set_cons_zero, List.set_cons_succ, List.length_cons, List.length_nil, ↓reduceIte, Bool.not_true, Bool.not_false, Bool.false_eq_true, true_and, and_true, List.replicate_zero, List.replicate_succ, List.append_nil, ↓sp1_m, ↓spRow_m, ↓spRis_m, ↓spPl_m, wipe3]
    refine ⟨hy', ?_⟩
    by_cases hR : isR 2 y = true
    · obtain ⟨u, v, rfl⟩ := isR2 hR
      obtain ⟨hu, hv⟩ := pl2 hy'
      simp only [hR, ↓sSeq_u, ↓sNext_u, ↓sBreak_u, ↓sCont_u, ↓sDrop_u, ↓sRet_u, ↓sRetN_u, ↓sIf_u, ↓sAsg_u, ↓sPut_u, ↓sFor_u, ↓dC_u, ↓dNil_u, ↓dCons_u, ↓dBlt_u, ↓dOp2_u, ↓dUn_u, ↓dMeth_u, ↓dCall_u, ↓dCallK_u, ↓dNotT_u, ↓dAndT_u, ↓dOrT_u, ↓dIf_u, ↓dTup_u, ↓dLst_u, ↓dLstO_u, ↓dSl_u, ↓dNoPart_u, ↓dRev_u, ↓dYes_u, ↓dDic0_u, ↓dLc_u, ↓dEnum_u, ↓dZip_u, ↓gtName_u, ↓dSortSet_u, ↓dSetK_u, ↓dDisp_u, ↓dVar_m, ↓dTru_m, ↓dAnd_m, ↓dOr_m, ↓dNot_m, ↓dChain_m, ↓dIter_m, ↓dRange1_m, ↓dPart_m, ↓gtCons_m, ↓gtNil_m, ↓gtTup_m, ↓sPar_m, ↓oAdd_m, ↓oInt_m, ↓oNeg_m, ↓oOrd_m, ↓oIx_m, ↓oLen_m, ↓oToInt_m, ↓oToTup_m, ↓oToList_m, ↓oGet1_m, ↓oUpper_m, ↓oToStr_m, ↓oPop_m, ↓oAppend_m, ↓oPut_m, ↓oSIndex_m, ↓atI_m, ↓getK_m, ↓oSl, ↓oRev, ↓oIsi_T, ↓oMax2I, ↓oMulI, ↓eqI, ↓eqS, ↓eqL, ↓eqT, ↓neI, ↓neS, ↓neL, ↓neT, vw_non, vw_bl, vw_int, vw_str, vw_tup, vw_lst, vw_dic, vw_raw, vw_obj, truD, keyD, itemsOf, mthTy, lenD, seqD, List.map_cons, List.map_nil, List.cons_append, List.nil_append, List.getElem?_cons_zero, List.getElem?_cons_succ, List.getElem?_nil, List.set_cons_zero, List.set_cons_succ, List.length_cons, List.length_nil, ↓reduceIte, Bool.not_true, Bool.not_false, Bool.false_eq_true, true_and, and_true, List.replicate_zero, List.replicate_succ, List.append_nil, ↓sp1_m, ↓spRow_m, ↓spRis_m, ↓spPl_m, at0, at1]
      refine ⟨hu, ?_⟩
      simp only [prB] at k1
      cases hW : isW u with
      | false => rw [hW] at k1; simp only [↓sSeq_u, ↓sNext_u, ↓sBreak_u, ↓sCont_u, ↓sDrop_u, ↓sRet_u, ↓sRetN_u, ↓sIf_u, ↓sAsg_u, ↓sPut_u, ↓sFor_u, ↓dC_u, ↓dNil_u, ↓dCons_u, ↓dBlt_u, ↓dOp2_u, ↓dUn_u, ↓dMeth_u, ↓dCall_u, ↓dCallK_u, ↓dNotT_u, ↓dAndT_u, ↓dOrT_u, ↓dIf_u, ↓dTup_u, ↓dLst_u, ↓dLstO_u, ↓dSl_u, ↓dNoPart_u, ↓dRev_u, ↓dYes_u, ↓dDic0_u, ↓dLc_u, ↓dEnum_u, ↓dZip_u, ↓gtName_u, ↓dSortSet_u, ↓dSetK_u, ↓dDisp_u, ↓dVar_m, ↓dTru_m, ↓dAnd_m, ↓dOr_m, ↓dNot_m, ↓dChain_m, ↓dIter_m, ↓dRange1_m, ↓dPart_m, ↓gtCons_m, ↓gtNil_m, ↓gtTup_m, ↓sPar_m, ↓oAdd_m, ↓oInt_m, ↓oNeg_m, ↓oOrd_m, ↓oIx_m, ↓oLen_m, ↓oToInt_m, ↓oToTup_m, ↓oToList_m, ↓oGet1_m, ↓oUpper_m, ↓oToStr_m, ↓oPop_m, ↓oAppend_m, ↓oPut_m, ↓oSIndex_m, ↓atI_m, ↓getK_m, ↓oSl, ↓oRev, ↓oIsi_T, ↓oMax2I, ↓oMulI, ↓eqI, ↓eqS, ↓eqL, ↓eqT, ↓neI, ↓neS, ↓neL, ↓neT, vw_non, vw_bl, vw_int, vw_str, vw_tup, vw_lst, vw_dic, vw_raw, vw_obj, truD, keyD, itemsOf, mthTy, lenD, seqD, List.map_cons, List.map_nil, List.cons_append, List.nil_append, List.getElem?_cons_zero, List.getElem?_cons_succ, List.getElem?_nil, List.set_cons_zero, List.set_cons_succ, List.length_cons, List.length_nil, ↓reduceIte, Bool.not_true, Bool.not_false, Bool.false_eq_true, true_and, and_true, List.replicate_zero, List.replicate_succ, List.append_nil, ↓sp1_m, ↓spRow_m, ↓spRis_m, ↓spPl_m]; exact k1
      | true => rw [hW] at k1; simp only [↓sSeq_u, ↓sNext_u, ↓sBreak_u, ↓sCont_u, ↓sDrop_u, ↓sRet_u, ↓sRetN_u, ↓sIf_u, ↓sAsg_u, ↓sPut_u, ↓sFor_u, ↓dC_u, ↓dNil_u, ↓dCons_u, ↓dBlt_u, ↓dOp2_u, ↓dUn_u, ↓dMeth_u, ↓dCall_u, ↓dCallK_u, ↓dNotT_u, ↓dAndT_u, ↓dOrT_u, ↓dIf_u, ↓dTup_u, ↓dLst_u, ↓dLstO_u, ↓dSl_u, ↓dNoPart_u, ↓dRev_u, ↓dYes_u, ↓dDic0_u, ↓dLc_u, ↓dEnum_u, ↓dZip_u, ↓gtName_u, ↓dSortSet_u, ↓dSetK_u, ↓dDisp_u, ↓dVar_m, ↓dTru_m, ↓dAnd_m, ↓dOr_m, ↓dNot_m, ↓dChain_m, ↓dIter_m, ↓dRange1_m, ↓dPart_m, ↓gtCons_m, ↓gtNil_m, ↓gtTup_m, ↓sPar_m, ↓oAdd_m, ↓oInt_m, ↓oNeg_m, ↓oOrd_m, ↓oIx_m, ↓oLen_m, ↓oToInt_m, ↓oToTup_m, ↓oToList_m, ↓oGet1_m, ↓oUpper_m, ↓oToStr_m, ↓oPop_m, ↓oAppend_m, ↓oPut_m, ↓oSIndex_m, ↓atI_m, ↓getK_m, ↓oSl, ↓oRev, ↓oIsi_T, ↓oMax2I, ↓oMulI, ↓eqI, ↓eqS, ↓eqL, ↓eqT, ↓neI, ↓neS, ↓neL, ↓neT, vw_non, vw_bl, vw_int, vw_str, vw_tup, vw_lst, vw_dic, vw_raw, vw_obj, truD, keyD, itemsOf, mthTy, lenD, seqD, List.map_cons, List.map_nil, List.cons_append, List.nil_append, List.getElem?_cons_zero, List.getElem?_cons_succ, List.getElem?_nil, List.set_cons_zero, List.set_cons_succ, List.length_cons, List.length_nil, ↓reduceIte, Bool.not_true, Bool.not_false, Bool.false_eq_true, true_and, and_true, List.replicate_zero, List.replicate_succ, List.append_nil, ↓sp1_m, ↓spRow_m, ↓spRis_m, ↓spPl_m]; exact ⟨hv, k1⟩
    · rw [prB_of] at k1
      have : isR 2 y = false := by simpa using hR
      simp only [this, Bool.false_and, ↓sSeq_u, ↓sNext_u, ↓sBreak_u, ↓sCont_u, ↓sDrop_u, ↓sRet_u, ↓sRetN_u, ↓sIf_u, ↓sAsg_u, ↓sPut_u, ↓sFor_u, ↓dC_u, ↓dNil_u, ↓dCons_u, ↓dBlt_u, ↓dOp2_u, ↓dUn_u, ↓dMeth_u, ↓dCall_u, ↓dCallK_u, ↓dNotT_u, ↓dAndT_u, ↓dOrT_u, ↓dIf_u, ↓dTup_u, ↓dLst_u, ↓dLstO_u, ↓dSl_u, ↓dNoPart_u, ↓dRev_u, ↓dYes_u, ↓dDic0_u, ↓dLc_u, ↓dEnum_u, ↓dZip_u, ↓gtName_u, ↓dSortSet_u, ↓dSetK_u, ↓dDisp_u, ↓dVar_m, ↓dTru_m, ↓dAnd_m, ↓dOr_m, ↓dNot_m, ↓dChain_m, ↓dIter_m, ↓dRange1_m, ↓dPart_m, ↓gtCons_m, ↓gtNil_m, ↓gtTup_m, ↓sPar_m, ↓oAdd_m, ↓oInt_m, ↓oNeg_m, ↓oOrd_m, ↓oIx_m, ↓oLen_m, ↓oToInt_m, ↓oToTup_m, ↓oToList_m, ↓oGet1_m, ↓oUpper_m, ↓oToStr_m, ↓oPop_m, ↓oAppend_m, ↓oPut_m, ↓oSIndex_m, ↓atI_m, ↓getK_m, ↓oSl, ↓oRev, ↓oIsi_T, ↓oMax2I, ↓oMulI, ↓eqI, ↓eqS, ↓eqL, ↓eqT, ↓neI, ↓neS, ↓neL, ↓neT, vw_non, vw_bl, vw_int, vw_str, vw_tup, vw_lst, vw_dic, vw_raw, vw_obj, truD, keyD, itemsOf, mthTy, lenD, seqD, List.map_cons, List.map_nil, List.cons_append, List.nil_append, List.getElem?_cons_zero, List.getElem?_cons_succ, List.getElem?_nil, List.set_cons_zero, List.set_cons_succ, List.length_cons, List.length_nil, ↓reduceIte, Bool.not_true, Bool.not_false, Bool.false_eq_true, true_and, and_true, List.replicate_zero, List.replicate_succ, List.append_nil, ↓sp1_m, ↓spRow_m, ↓spRis_m, ↓spPl_m] at k1 ⊢
      exact k1
  · rw [filter_T]
    simp only [↓sSeq_u, ↓sNext_u, ↓sBreak_u, ↓sCont_u, ↓sDrop_u, ↓sRet_u, ↓sRetN_u, ↓sIf_u, ↓sAsg_u, ↓sPut_u, ↓sFor_u, ↓dC_u, ↓dNil_u, ↓dCons_u, ↓dBlt_u, ↓dOp2_u, ↓dUn_u, ↓dMeth_u, ↓dCall_u, ↓dCallK_u, ↓dNotT_u, ↓dAndT_u, ↓dOrT_u, ↓dIf_u, ↓dTup_u, ↓dLst_u, ↓dLstO_u, ↓dSl_u, ↓dNoPart_u, ↓dRev_u, ↓dYes_u, ↓dDic0_u, ↓dLc_u, ↓dEnum_u, ↓dZip_u, ↓gtName_u, ↓dSortSet_u, ↓dSetK_u, ↓dDisp_u, ↓dVar_m, ↓dTru_m, ↓dAnd_m, ↓dOr_m, ↓dNot_m, ↓dChain_m, ↓dIter_m, ↓dRange1_m, ↓dPart_m, ↓gtCons_m, ↓gtNil_m, ↓gtTup_m, ↓sPar_m, ↓oAdd_m, ↓oInt_m, ↓oNeg_m, ↓oOrd_m, ↓oIx_m, ↓oLen_m, ↓oToInt_m, ↓oToTup_m, ↓oToList_m, ↓oGet1_m, ↓oUpper_m, ↓oToStr_m, ↓oPop_m, ↓oAppend_m, ↓oPut_m, ↓oSIndex_m, ↓atI_m, ↓getK_m, ↓oSl, ↓oRev, ↓oIsi_T, ↓oMax2I, ↓oMulI, ↓eqI, ↓eqS, ↓eqL, ↓eqT, ↓neI, ↓neS, ↓neL, ↓neT, vw_non, vw_bl, vw_int, vw_str, vw_tup, vw_lst, vw_dic, vw_raw, vw_obj, truD, keyD, itemsOf, mthTy, lenD, seqD, List.map_cons, List.map_nil, List.cons_append, List.nil_append, List.getElem?_cons_zero, List.getElem?_cons_succ, List.getElem?_nil, List.set_cons_zero, List.set_cons_succ, List.length_cons, List.length_nil, ↓reduceIte, Bool.not_true, Bool.not_false, Bool.false_eq_true, true_and, and_true, List.replicate_zero, List.replicate_succ, List.append_nil, ↓sp1_m, ↓spRow_m, ↓spRis_m, ↓spPl_m, ↓reduceIte]
    refine bls (f := prB) (fun _ _ => rfl) ?_
    simp only [↓sSeq_u, ↓sNext_u, ↓sBreak_u, ↓sCont_u, ↓sDrop_u, ↓sRet_u, ↓sRetN_u, ↓sIf_u, ↓sAsg_u, ↓sPut_u, ↓sFor_u, ↓dC_u, ↓dNil_u, ↓dCons_u, ↓dBlt_u, ↓dOp2_u, ↓dUn_u, ↓dMeth_u, ↓dCall_u, ↓dCallK_u, ↓dNotT_u, ↓dAndT_u, ↓dOrT_u, ↓dIf_u, ↓dTup_u, ↓dLst_u, ↓dLstO_u, ↓dSl_u, ↓dNoPart_u, ↓dRev_u, ↓dYes_u, ↓dDic0_u, ↓dLc_u, ↓dEnum_u, ↓dZip_u, ↓gtName_u, ↓dSortSet_u, ↓dSetK_u, ↓dDisp_u, ↓dVar_m, ↓dTru_m, ↓dAnd_m, ↓dOr_m, ↓dNot_m, ↓dChain_m, ↓dIter_m, ↓dRange1_m, ↓dPart_m, ↓gtCons_m, ↓gtNil_m, ↓gtTup_m, ↓sPar_m, ↓oAdd_m, ↓oInt_m, ↓oNeg_m, ↓oOrd_m, ↓oIx_m, ↓oLen_m, ↓oToInt_m, ↓oToTup_m, ↓oToList_m, ↓oGet1_m, ↓oUpper_m, ↓oToStr_m, ↓oPop_m, ↓oAppend_m, ↓oPut_m, ↓oSIndex_m, ↓atI_m, ↓getK_m, ↓oSl, ↓oRev, ↓oIsi_T, ↓oMax2I, ↓oMulI, ↓eqI, ↓eqS, ↓eqL, ↓eqT, ↓neI, ↓neS, ↓neL, ↓neT, vw_non, vw_bl, vw_int, vw_str, vw_tup, vw_lst, vw_dic, vw_raw, vw_obj, truD, keyD, itemsOf, mthTy, lenD, seqD, List.map_cons, List.map_nil, List.cons_append, List.nil_append, List.getElem?_cons_zero, List.getElem?_cons_succ, List.getElem?_nil, List.set_cons_zero, List.set_cons_succ, List.length_cons, List.length_nil, ↓reduceIte, Bool.not_true, Bool.not_false, Bool.false_eq_true, true_and, and_true, List.replicate_zero, List.replicate_succ, List.append_nil, ↓sp1_m, ↓spRow_m, ↓spRis_m, ↓spPl_m]
    cases hA : ps.all prB with
    | false =>
      have hp : pgB a m (.tup [l, .tup ps]) = false := by simp [pgB, hA]
      rw [hp] at q; simp only [↓sSeq_u, ↓sNext_u, ↓sBreak_u, ↓sCont_u, ↓sDrop_u, ↓sRet_u, ↓sRetN_u, ↓sIf_u, ↓sAsg_u, ↓sPut_u, ↓sFor_u, ↓dC_u, ↓dNil_u, ↓dCons_u, ↓dBlt_u, ↓dOp2_u, ↓dUn_u, ↓dMeth_u, ↓dCall_u, ↓dCallK_u, ↓dNotT_u, ↓dAndT_u, ↓dOrT_u, ↓dIf_u, ↓dTup_u, ↓dLst_u, ↓dLstO_u, ↓dSl_u, ↓dNoPart_u, ↓dRev_u, ↓dYes_u, ↓dDic0_u, ↓dLc_u, ↓dEnum_u, ↓dZip_u, ↓gtName_u, ↓dSortSet_u, ↓dSetK_u, ↓dDisp_u, ↓dVar_m, ↓dTru_m, ↓dAnd_m, ↓dOr_m, ↓dNot_m, ↓dChain_m, ↓dIter_m, ↓dRange1_m, ↓dPart_m, ↓gtCons_m, ↓gtNil_m, ↓gtTup_m, ↓sPar_m, ↓oAdd_m, ↓oInt_m, ↓oNeg_m, ↓oOrd_m, ↓oIx_m, ↓oLen_m, ↓oToInt_m, ↓oToTup_m, ↓oToList_m, ↓oGet1_m, ↓oUpper_m, ↓oToStr_m, ↓oPop_m, ↓oAppend_m, ↓oPut_m, ↓oSIndex_m, ↓atI_m, ↓getK_m, ↓oSl, ↓oRev, ↓oIsi_T, ↓oMax2I, ↓oMulI, ↓eqI, ↓eqS, ↓eqL, ↓eqT, ↓neI, ↓neS, ↓neL, ↓neT, vw_non, vw_bl, vw_int, vw_str, vw_tup, vw_lst, vw_dic, vw_raw, vw_obj, truD, keyD, itemsOf, mthTy, lenD, seqD, List.map_cons, List.map_nil, List.cons_append, List.nil_append, List.getElem?_cons_zero, List.getElem?_cons_succ, List.getElem?_nil, List.set_cons_zero, List.set_cons_succ, List.length_cons, List.length_nil, ↓reduceIte, Bool.not_true, Bool.not_false, Bool.false_eq_true, true_and, and_true, List.replicate_zero, List.replicate_succ, List.append_nil, ↓sp1_m, ↓spRow_m, ↓spRis_m, ↓spPl_m]; exact q
    | true =>
    have hA' := List.all_eq_true.mp hA
    have hpg : pgB a m (.tup [l, .tup ps]) = (risS (ps.map keyStr) && (ps.map keyStr).all fun x => decide (plS x m = a)) := by
      simp [pgB, hA, hC]
    rw [hpg] at q
    simp only [↓sSeq_u, ↓sNext_u, ↓sBreak_u, ↓sCont_u, ↓sDrop_u, ↓sRet_u, ↓sRetN_u, ↓sIf_u, ↓sAsg_u, ↓sPut_u, ↓sFor_u, ↓dC_u, ↓dNil_u, ↓dCons_u, ↓dBlt_u, ↓dOp2_u, ↓dUn_u, ↓dMeth_u, ↓dCall_u, ↓dCallK_u, ↓dNotT_u, ↓dAndT_u, ↓dOrT_u, ↓dIf_u, ↓dTup_u, ↓dLst_u, ↓dLstO_u, ↓dSl_u, ↓dNoPart_u, ↓dRev_u, ↓dYes_u, ↓dDic0_u, ↓dLc_u, ↓dEnum_u, ↓dZip_u, ↓gtName_u, ↓dSortSet_u, ↓dSetK_u, ↓dDisp_u, ↓dVar_m, ↓dTru_m, ↓dAnd_m, ↓dOr_m, ↓dNot_m, ↓dChain_m, ↓dIter_m, ↓dRange1_m, ↓dPart_m, ↓gtCons_m, ↓gtNil_m, ↓gtTup_m, ↓sPar_m, ↓oAdd_m, ↓oInt_m, ↓oNeg_m, ↓oOrd_m, ↓oIx_m, ↓oLen_m, ↓oToInt_m, ↓oToTup_m, ↓oToList_m, ↓oGet1_m, ↓oUpper_m, ↓oToStr_m, ↓oPop_m, ↓oAppend_m, ↓oPut_m, ↓oSIndex_m, ↓atI_m, ↓getK_m, ↓oSl, ↓oRev, ↓oIsi_T, ↓oMax2I, ↓oMulI, ↓eqI, ↓eqS, ↓eqL, ↓eqT, ↓neI, ↓neS, ↓neL, ↓neT, vw_non, vw_bl, vw_int, vw_str, vw_tup, vw_lst, vw_dic, vw_raw, vw_obj, truD, keyD, itemsOf, mthTy, lenD, seqD, List.map_cons, List.map_nil, List.cons_append, List.nil_append, List.getElem?_cons_zero, List.getElem?_cons_succ, List.getElem?_nil, List.set_cons_zero, List.set_cons_succ, List.length_cons, List.length_nil, ↓reduceIte, Bool.not_true, Bool.not_false, Bool.false_eq_true, true_and, and_true, List.replicate_zero, List.replicate_succ, List.append_nil, ↓sp1_m, ↓spRow_m, ↓spRis_m, ↓spPl_m, at0, at1]
    refine lcGo_pure (fun _ => true) key1 trivial (by exact sz_le (by simp; omega)) (fun y hy Kn Ks k1 k2 => ?_) ?_
    · obtain ⟨x, w, rfl, _, _⟩ := prB_inv (hA' y hy)
      simp only [↓sSeq_u, ↓sNext_u, ↓sBreak_u, ↓sCont_u, ↓sDrop_u, ↓sRet_u, ↓sRetN_u, ↓sIf_u, ↓sAsg_u, ↓sPut_u, ↓sFor_u, ↓dC_u, ↓dNil_u, ↓dCons_u, ↓dBlt_u, ↓dOp2_u, ↓dUn_u, ↓dMeth_u, ↓dCall_u, ↓dCallK_u, ↓dNotT_u, ↓dAndT_u, ↓dOrT_u, ↓dIf_u, ↓dTup_u, ↓dLst_u, ↓dLstO_u, ↓dSl_u, ↓dNoPart_u, ↓dRev_u, ↓dYes_u, ↓dDic0_u, ↓dLc_u, ↓dEnum_u, ↓dZip_u, ↓gtName_u, ↓dSortSet_u, ↓dSetK_u, ↓dDisp_u, ↓dVar_m, ↓dTru_m, ↓dAnd_m, ↓dOr_m, ↓dNot_m, ↓dChain_m, ↓dIter_m, ↓dRange1_m, ↓dPart_m, ↓gtCons_m, ↓gtNil_m, ↓gtTup_m, ↓sPar_m, ↓oAdd_m, ↓oInt_m, ↓oNeg_m, ↓oOrd_m, ↓oIx_m, ↓oLen_m, ↓oToInt_m, ↓oToTup_m, ↓oToList_m, ↓oGet1_m, ↓oUpper_m, ↓oToStr_m, ↓oPop_m, ↓oAppend_m, ↓oPut_m, ↓oSIndex_m, ↓atI_m, ↓getK_m, ↓oSl, ↓oRev, ↓oIsi_T, ↓oMax2I, ↓oMulI, ↓eqI, ↓eqS, ↓eqL, ↓eqT, ↓neI, ↓neS, ↓neL, ↓neT, vw_non, vw_bl, vw_int, vw_str, vw_tup, vw_lst, vw_dic, vw_raw, vw_obj, truD, keyD, itemsOf, mthTy, lenD, seqD, List.map_cons, List.map_nil, List.cons_append, List.nil_append, List.getElem?_cons_zero, List.getElem?_cons_succ, List.getElem?_nil, List.set_cons_zero, List.set_cons_succ, List.length_cons, List.length_nil, ↓reduceIte, Bool.not_true, Bool.not_false, Bool.false_eq_true, true_and, and_true, List.replicate_zero, List.replicate_succ, List.append_nil, ↓sp1_m, ↓spRow_m, ↓spRis_m, ↓spPl_m, wipe3]
      exact k1 rfl
    · rw [filter_T]
      have hk : List.map key1 ps = (ps.map keyStr).map D.str := by rw [List.map_map]; rfl
      simp only [↓sSeq_u, ↓sNext_u, ↓sBreak_u, ↓sCont_u, ↓sDrop_u, ↓sRet_u, ↓sRetN_u, ↓sIf_u, ↓sAsg_u, ↓sPut_u, ↓sFor_u, ↓dC_u, ↓dNil_u, ↓dCons_u, ↓dBlt_u, ↓dOp2_u, ↓dUn_u, ↓dMeth_u, ↓dCall_u, ↓dCallK_u, ↓dNotT_u, ↓dAndT_u, ↓dOrT_u, ↓dIf_u, ↓dTup_u, ↓dLst_u, ↓dLstO_u, ↓dSl_u, ↓dNoPart_u, ↓dRev_u, ↓dYes_u, ↓dDic0_u, ↓dLc_u, ↓dEnum_u, ↓dZip_u, ↓gtName_u, ↓dSortSet_u, ↓dSetK_u, ↓dDisp_u, ↓dVar_m, ↓dTru_m, ↓dAnd_m, ↓dOr_m, ↓dNot_m, ↓dChain_m, ↓dIter_m, ↓dRange1_m, ↓dPart_m, ↓gtCons_m, ↓gtNil_m, ↓gtTup_m, ↓sPar_m, ↓oAdd_m, ↓oInt_m, ↓oNeg_m, ↓oOrd_m, ↓oIx_m, ↓oLen_m, ↓oToInt_m, ↓oToTup_m, ↓oToList_m, ↓oGet1_m, ↓oUpper_m, ↓oToStr_m, ↓oPop_m, ↓oAppend_m, ↓oPut_m, ↓oSIndex_m, ↓atI_m, ↓getK_m, ↓oSl, ↓oRev, ↓oIsi_T, ↓oMax2I, ↓oMulI, ↓eqI, ↓eqS, ↓eqL, ↓eqT, ↓neI, ↓neS, ↓neL, ↓neT, vw_non, vw_bl, vw_int, vw_str, vw_tup, vw_lst, vw_dic, vw_raw, vw_obj, truD, keyD, itemsOf, mthTy, lenD, seqD, List.map_cons, List.map_nil, List.cons_append, List.nil_append, List.getElem?_cons_zero, List.getElem?_cons_succ, List.getElem?_nil, List.set_cons_zero, List.set_cons_succ, List.length_cons, List.length_nil, ↓reduceIte, Bool.not_true, Bool.not_false, Bool.false_eq_true, true_and, and_true, List.replicate_zero, List.replicate_succ, List.append_nil, ↓sp1_m, ↓spRow_m, ↓spRis_m, ↓spPl_m, ↓reduceIte, hk]
      refine ⟨by simpa using hps, ?_⟩
      cases hr : risS (ps.map keyStr) with
      | false => rw [hr] at q; simp only [↓sSeq_u, ↓sNext_u, ↓sBreak_u, ↓sCont_u, ↓sDrop_u, ↓sRet_u, ↓sRetN_u, ↓sIf_u, ↓sAsg_u, ↓sPut_u, ↓sFor_u, ↓dC_u, ↓dNil_u, ↓dCons_u, ↓dBlt_u, ↓dOp2_u, ↓dUn_u, ↓dMeth_u, ↓dCall_u, ↓dCallK_u, ↓dNotT_u, ↓dAndT_u, ↓dOrT_u, ↓dIf_u, ↓dTup_u, ↓dLst_u, ↓dLstO_u, ↓dSl_u, ↓dNoPart_u, ↓dRev_u, ↓dYes_u, ↓dDic0_u, ↓dLc_u, ↓dEnum_u, ↓dZip_u, ↓gtName_u, ↓dSortSet_u, ↓dSetK_u, ↓dDisp_u, ↓dVar_m, ↓dTru_m, ↓dAnd_m, ↓dOr_m, ↓dNot_m, ↓dChain_m, ↓dIter_m, ↓dRange1_m, ↓dPart_m, ↓gtCons_m, ↓gtNil_m, ↓gtTup_m, ↓sPar_m, ↓oAdd_m, ↓oInt_m, ↓oNeg_m, ↓oOrd_m, ↓oIx_m, ↓oLen_m, ↓oToInt_m, ↓oToTup_m, ↓oToList_m, ↓oGet1_m, ↓oUpper_m, ↓oToStr_m, ↓oPop_m, ↓oAppend_m, ↓oPut_m, ↓oSIndex_m, ↓atI_m, ↓getK_m, ↓oSl, ↓oRev, ↓oIsi_T, ↓oMax2I, ↓oMulI, ↓eqI, ↓eqS, ↓eqL, ↓eqT, ↓neI, ↓neS, ↓neL, ↓neT, vw_non, vw_bl, vw_int, vw_str, vw_tup, vw_lst, vw_dic, vw_raw, vw_obj, truD, keyD, itemsOf, mthTy, lenD, seqD, List.map_cons, List.map_nil, List.cons_append, List.nil_append, List.getElem?_cons_zero, List.getElem?_cons_succ, List.getElem?_nil, List.set_cons_zero, List.set_cons_succ, List.length_cons, List.length_nil, ↓reduceIte, Bool.not_true, Bool.not_false, Bool.false_eq_true, true_and, and_true, List.replicate_zero, List.replicate_succ, List.append_nil, ↓sp1_m, ↓spRow_m, ↓spRis_m, ↓spPl_m]; exact q
      | true =>
        rw [hr, Bool.true_and] at q
        simp only [↓sSeq_u, ↓sNext_u, ↓sBreak_u, ↓sCont_u, ↓sDrop_u, ↓sRet_u, ↓sRetN_u, ↓sIf_u, ↓sAsg_u, ↓sPut_u, ↓sFor_u, ↓dC_u, ↓dNil_u, ↓dCons_u, ↓dBlt_u, ↓dOp2_u, ↓dUn_u, ↓dMeth_u, ↓dCall_u, ↓dCallK_u, ↓dNotT_u, ↓dAndT_u, ↓dOrT_u, ↓dIf_u, ↓dTup_u, ↓dLst_u, ↓dLstO_u, ↓dSl_u, ↓dNoPart_u, ↓dRev_u, ↓dYes_u, ↓dDic0_u, ↓dLc_u, ↓dEnum_u, ↓dZip_u, ↓gtName_u, ↓dSortSet_u, ↓dSetK_u, ↓dDisp_u, ↓dVar_m, ↓dTru_m, ↓dAnd_m, ↓dOr_m, ↓dNot_m, ↓dChain_m, ↓dIter_m, ↓dRange1_m, ↓dPart_m, ↓gtCons_m, ↓gtNil_m, ↓gtTup_m, ↓sPar_m, ↓oAdd_m, ↓oInt_m, ↓oNeg_m, ↓oOrd_m, ↓oIx_m, ↓oLen_m, ↓oToInt_m, ↓oToTup_m, ↓oToList_m, ↓oGet1_m, ↓oUpper_m, ↓oToStr_m, ↓oPop_m, ↓oAppend_m, ↓oPut_m, ↓oSIndex_m, ↓atI_m, ↓getK_m, ↓oSl, ↓oRev, ↓oIsi_T, ↓oMax2I, ↓oMulI, ↓eqI, ↓eqS, ↓eqL, ↓eqT, ↓neI, ↓neS, ↓neL, ↓neT, vw_non, vw_bl, vw_int, vw_str, vw_tup, vw_lst, vw_dic, vw_raw, vw_obj, truD, keyD, itemsOf, mthTy, lenD, seqD, List.map_cons, List.map_nil, List.cons_append, List.nil_append, List.getElem?_cons_zero, List.getElem?_cons_succ, List.getElem?_nil, List.set_cons_zero, List.set_cons_succ, List.length_cons, List.length_nil, ↓reduceIte, Bool.not_true, Bool.not_false, Bool.false_eq_true, true_and, and_true, List.replicate_zero, List.replicate_succ, List.append_nil, ↓sp1_m, ↓spRow_m, ↓spRis_m, ↓spPl_m]
        refine lcGo_pure (fun _ => true) (eqPl a m) trivial (by exact sz_le (by simp; omega)) (fun y hy Kn Ks k1 k2 => ?_) ?_
        · obtain ⟨x, hx, rfl⟩ := List.mem_map.mp hy
          obtain ⟨p, hp, rfl⟩ := List.mem_map.mp hx
          obtain ⟨x, w, rfl, hx, _⟩ := prB_inv (hA' p hp)
          simp only [↓sSeq_u, ↓sNext_u, ↓sBreak_u, ↓sCont_u, ↓sDrop_u, ↓sRet_u, ↓sRetN_u, ↓sIf_u, ↓sAsg_u, ↓sPut_u, ↓sFor_u, ↓dC_u, ↓dNil_u, ↓dCons_u, ↓dBlt_u, ↓dOp2_u, ↓dUn_u, ↓dMeth_u, ↓dCall_u, ↓dCallK_u, ↓dNotT_u, ↓dAndT_u, ↓dOrT_u, ↓dIf_u, ↓dTup_u, ↓dLst_u, ↓dLstO_u, ↓dSl_u, ↓dNoPart_u, ↓dRev_u, ↓dYes_u, ↓dDic0_u, ↓dLc_u, ↓dEnum_u, ↓dZip_u, ↓gtName_u, ↓dSortSet_u, ↓dSetK_u, ↓dDisp_u, ↓dVar_m, ↓dTru_m, ↓dAnd_m, ↓dOr_m, ↓dNot_m, ↓dChain_m, ↓dIter_m, ↓dRange1_m, ↓dPart_m, ↓gtCons_m, ↓gtNil_m, ↓gtTup_m, ↓sPar_m, ↓oAdd_m, ↓oInt_m, ↓oNeg_m, ↓oOrd_m, ↓oIx_m, ↓oLen_m, ↓oToInt_m, ↓oToTup_m, ↓oToList_m, ↓oGet1_m, ↓oUpper_m, ↓oToStr_m, ↓oPop_m, ↓oAppend_m, ↓oPut_m, ↓oSIndex_m, ↓atI_m, ↓getK_m, ↓oSl, ↓oRev, ↓oIsi_T, ↓oMax2I, ↓oMulI, ↓eqI, ↓eqS, ↓eqL, ↓eqT, ↓neI, ↓neS, ↓neL, ↓neT, vw_non, vw_bl, vw_int, vw_str, vw_tup, vw_lst, vw_dic, vw_raw, vw_obj, truD, keyD, itemsOf, mthTy, lenD, seqD, List.map_cons, List.map_nil, List.cons_append, List.nil_append, List.getElem?_cons_zero, List.getElem?_cons_succ, List.getElem?_nil, List.set_cons_zero, List.set_cons_succ, List.length_cons, List.length_nil, ↓reduceIte, Bool.not_true, Bool.not_false, Bool.false_eq_true, true_and, and_true, List.replicate_zero, List.replicate_succ, List.append_nil, ↓sp1_m, ↓spRow_m, ↓spRis_m, ↓spPl_m, wipe3]
          exact ⟨hx, hm, k1 rfl⟩
        · rw [filter_T]
          simp only [↓sSeq_u, ↓sNext_u, ↓sBreak_u, ↓sCont_u, ↓sDrop_u, ↓sRet_u, ↓sRetN_u, ↓sIf_u, ↓sAsg_u, ↓sPut_u, ↓sFor_u, ↓dC_u, ↓dNil_u, ↓dCons_u, ↓dBlt_u, ↓dOp2_u, ↓dUn_u, ↓dMeth_u, ↓dCall_u, ↓dCallK_u, ↓dNotT_u, ↓dAndT_u, ↓dOrT_u, ↓dIf_u, ↓dTup_u, ↓dLst_u, ↓dLstO_u, ↓dSl_u, ↓dNoPart_u, ↓dRev_u, ↓dYes_u, ↓dDic0_u, ↓dLc_u, ↓dEnum_u, ↓dZip_u, ↓gtName_u, ↓dSortSet_u, ↓dSetK_u, ↓dDisp_u, ↓dVar_m, ↓dTru_m, ↓dAnd_m, ↓dOr_m, ↓dNot_m, ↓dChain_m, ↓dIter_m, ↓dRange1_m, ↓dPart_m, ↓gtCons_m, ↓gtNil_m, ↓gtTup_m, ↓sPar_m, ↓oAdd_m, ↓oInt_m, ↓oNeg_m, ↓oOrd_m, ↓oIx_m, ↓oLen_m, ↓oToInt_m, ↓oToTup_m, ↓oToList_m, ↓oGet1_m, ↓oUpper_m, ↓oToStr_m, ↓oPop_m, ↓oAppend_m, ↓oPut_m, ↓oSIndex_m, ↓atI_m, ↓getK_m, ↓oSl, ↓oRev, ↓oIsi_T, ↓oMax2I, ↓oMulI, ↓eqI, ↓eqS, ↓eqL, ↓eqT, ↓neI, ↓neS, ↓neL, ↓neT, vw_non, vw_bl, vw_int, vw_str, vw_tup, vw_lst, vw_dic, vw_raw, vw_obj, truD, keyD, itemsOf, mthTy, lenD, seqD, List.map_cons, List.map_nil, List.cons_append, List.nil_append, List.getElem?_cons_zero, List.getElem?_cons_succ, List.getElem?_nil, List.set_cons_zero, List.set_cons_succ, List.length_cons, List.length_nil, ↓reduceIte, Bool.not_true, Bool.not_false, Bool.false_eq_true, true_and, and_true, List.replicate_zero, List.replicate_succ, List.append_nil, ↓sp1_m, ↓spRow_m, ↓spRis_m, ↓spPl_m, ↓reduceIte]
          refine bls (f := fun d => match d with | .str x => decide (plS x m = a) | _ => false) (fun y hy => ?_) ?_
          · obtain ⟨x, hx, rfl⟩ := List.mem_map.mp hy
            rfl
          · rw [List.all_map]; exact q
end L3.K55
namespace L3
open PySem PySem.Spec PyProof.Rows L2
/-! ### texts in order -/
abbrev ltS (a b : Str) : Prop := a.cps.toList < b.cps.toList
def leS (a b : Str) : Bool := decide (a.cps.toList ≤ b.cps.toList)
def sortS (xs : List Str) : List Str := xs.mergeSort leS
theorem leS_trans (a b c : Str) (h : leS a b = true) (k : leS b c = true) : leS a c = true := by
  simp only [leS, decide_eq_true_eq] at *; exact List.le_trans h k
theorem leS_total (a b : Str) : (leS a b || leS b a) = true := by
  simp only [leS, Bool.or_eq_true, decide_eq_true_eq]; exact List.le_total _ _
theorem leS_asymm (a b : Str) (h : leS a b = true) (k : leS b a = true) : a = b := by
  simp only [leS, decide_eq_true_eq] at *; exact PySem.W.str_of_cps (List.le_antisymm h k)
theorem ltS_iff {a b : Str} : ltS a b ↔ leS a b = true ∧ a ≠ b := by
  simp only [leS, decide_eq_true_eq]
  constructor
  · intro h
    exact ⟨List.le_of_lt h, fun e => by subst e; exact List.lt_irrefl _ h⟩
  · rintro ⟨h, e⟩
    by_cases k : a.cps.toList < b.cps.toList
    · exact k
    · exact absurd (PySem.W.str_of_cps (List.le_antisymm h (List.not_lt.mp k))) e
theorem sortS_pw (xs : List Str) : (sortS xs).Pairwise fun a b => leS a b = true := List.pairwise_mergeSort leS_trans leS_total xs
theorem sortS_perm (xs : List Str) : (sortS xs).Perm xs := List.mergeSort_perm _ _
theorem sortS_lt {xs : List Str} (h : xs.Nodup) : (sortS xs).Pairwise ltS := by
  have n : (sortS xs).Nodup := (sortS_perm xs).nodup_iff.mpr h
  exact (List.pairwise_and_iff.mpr ⟨sortS_pw xs, n⟩).imp fun h => ltS_iff.mpr h
theorem sortS_id {xs : List Str} (h : xs.Pairwise ltS) : sortS xs = xs := List.mergeSort_of_pairwise (h.imp fun h => (ltS_iff.mp h).1)
theorem nodup_lt {xs : List Str} (h : xs.Pairwise ltS) : xs.Nodup := h.imp fun h => (ltS_iff.mp h).2
theorem sortD_str (xs : List Str) : sortD (xs.map .str) = (sortS xs).map .str := by
  unfold sortD sortS
  refine (List.map_mergeSort fun a _ b _ => ?_).symm
  rw [PySem.W.dataLe_eq]
  simp only [cond_false, D.toP, PySem.W.dataLt_str, leS]
  rw [Bool.eq_iff_iff]
  simp only [Bool.not_eq_true', decide_eq_false_iff_not, decide_eq_true_eq, List.not_lt]
theorem pus_str : ∀ xs : List Str, D.pus (xs.map .str) = true
  | [] => rfl
  | x :: r => by simp [D.pus, D.pu, pus_str r]
theorem sortC_str (xs : List Str) : sortC (xs.map .str) := by
  refine ⟨pus_str xs, ?_, .inr ?_, ?_⟩
  · intro d hd e he
    obtain ⟨a, ha, rfl⟩ := List.mem_map.mp hd
    obtain ⟨b, hb, rfl⟩ := List.mem_map.mp he
    obtain ⟨a, _, rfl⟩ := List.mem_map.mp ha
    obtain ⟨b, _, rfl⟩ := List.mem_map.mp hb
    rfl
  · intro d hd
    obtain ⟨a, ha, rfl⟩ := List.mem_map.mp hd
    obtain ⟨a, _, rfl⟩ := List.mem_map.mp ha
    exact ⟨by simp [D.toP], by simp [D.toP]⟩
  · intro d hd
    obtain ⟨a, _, rfl⟩ := List.mem_map.mp hd
    simp [dDep, D.toP, PyData.depth]
theorem toPs_str (xs : List Str) : D.toPs (xs.map .str) = xs.map PyData.str := by
  rw [toPs_map, List.map_map]; rfl
theorem eqv_strs : ∀ xs ys : List Str, PyData.eqvAll (xs.map PyData.str) (ys.map PyData.str) = decide (xs = ys)
  | [], [] => by simp [PyData.eqvAll]
  | [], _ :: _ => by simp [PyData.eqvAll]
  | _ :: _, [] => by simp [PyData.eqvAll]
  | x :: xs, y :: ys => by
    simp only [List.map_cons, PyData.eqvAll, PyData.eqv, eqv_strs xs ys, List.cons.injEq]
    rw [Bool.eq_iff_iff]; simp
theorem depthAll_strs : ∀ xs : List Str, PyData.depthAll (xs.map PyData.str) ≤ 1
  | [] => by simp [PyData.depthAll]
  | x :: r => by
    have := depthAll_strs r
    simp [PyData.depthAll, PyData.depth]; omega
theorem eqD_strs (xs ys : List Str) : eqD (.lst (xs.map .str)) (.lst (ys.map .str)) (decide (xs = ys)) := by
  refine .inl ⟨by simp [D.pu, pus_str], by simp [D.pu, pus_str], .inl ?_, ?_⟩
  · have := depthAll_strs xs
    simp only [dDep, D.toP, PyData.depth, toPs_str]; omega
  · simp only [D.toP, PyData.eqv, toPs_str, eqv_strs]
theorem eq_strs {xs ys : List Str} {P : Bool → Prop} : (∃ r, eqD (.lst (xs.map .str)) (.lst (ys.map .str)) r ∧ P r) = P (decide (xs = ys)) := eqD_ex (eqD_strs xs ys)
theorem neStrs {M : St3} {P : KD} {xs ys : List Str} : oNe M [.lst (xs.map .str), .lst (ys.map .str)] P = P (.bl (!decide (xs = ys))) M := by rw [oNe_m]; exact eq_strs (P := fun r => P (.bl (!r)) M)
/-! sets of texts -/
theorem dedup_str : ∀ xs : List Str, ∃ ys : List Str, dedupK (xs.map Sum.inr) = ys.map Sum.inr ∧ ys.Nodup ∧ (∀ x, x ∈ ys ↔ x ∈ xs) ∧ (xs.Nodup → ys = xs)
  | [] => ⟨[], rfl, List.nodup_nil, fun _ => Iff.rfl, fun _ => rfl⟩
  | x :: r => by
    obtain ⟨ys, e, n, m, k⟩ := dedup_str r
    simp only [List.map_cons, dedupK]
    have hm : memK (Sum.inr x) (r.map Sum.inr) = true ↔ x ∈ r := by
      rw [memK_iff, List.mem_map]
      exact ⟨fun ⟨y, hy, e⟩ => by cases e; exact hy, fun h => ⟨x, h, rfl⟩⟩
    by_cases hx : x ∈ r
    · rw [if_pos (hm.mpr hx)]
      refine ⟨ys, e, n, fun z => ?_, fun h => absurd hx (List.nodup_cons.mp h).1⟩
      rw [m z, List.mem_cons]
      exact ⟨.inr, fun h => h.elim (fun e => by subst e; exact hx) id⟩
    · rw [if_neg (fun h => hx (hm.mp h))]
      refine ⟨x :: ys, by rw [e]; rfl, List.nodup_cons.mpr ⟨fun h => hx ((m x).mp h), n⟩, fun z => by simp [m z], fun h => by rw [k (List.nodup_cons.mp h).2]⟩
theorem keysOf_str : ∀ xs : List Str, keysOf (xs.map .str) = some (xs.map Sum.inr)
  | [] => rfl
  | x :: r => by simp only [List.map_cons, keysOf, keyD, keysOf_str r]
end L3
namespace L3.K55
open PySem PySem.Spec PyProof.Rows L2
theorem ris_cons {x y : Str} {r : List Str} : risS (x :: y :: r) = (decide (ltS x y) && risS (y :: r)) := by
  simp [risS]
theorem ris_iff : ∀ xs : List Str, risS xs = true ↔ xs.Pairwise ltS
  | [] => by simp [risS]
  | [x] => by simp [risS]
  | x :: y :: r => by
    rw [ris_cons, Bool.and_eq_true, decide_eq_true_eq, ris_iff (y :: r)]
    constructor
    · rintro ⟨h1, h2⟩
      refine List.pairwise_cons.mpr ⟨fun z hz => ?_, h2⟩
      rcases List.mem_cons.mp hz with rfl | hz
      · exact h1
      · exact List.lt_trans h1 ((List.pairwise_cons.mp h2).1 z hz)
    · intro h
      exact ⟨(List.pairwise_cons.mp h).1 y (by simp), (List.pairwise_cons.mp h).2⟩
theorem ris_sort {xs ys : List Str} (n : ys.Nodup) (k : xs.Nodup → ys = xs) : decide (xs = sortS ys) = risS xs := by
  rw [Bool.eq_iff_iff, decide_eq_true_eq, ris_iff]
  constructor
  · intro e; rw [e]; exact sortS_lt n
  · intro h; rw [k (nodup_lt h), sortS_id h]
end L3.K55
namespace L3
open PySem PySem.Spec PyProof.Rows L2
/-- a loop that looks for what is wrong -/
theorem forGo_find {g : TDG} {tb : TDS} {Z : End3} {chk : St3 → Prop} {M : St3} (I : Env3 → Prop) (b : D → Bool) (hc : chk M) : ∀ {items : List D},
    (∀ x ∈ items, ∀ env, I env → ∀ N : Env3 → St3 → Prop, (b x = true → ∀ env', I env' → N env' M) → (b x = false → Z.rt (.bl false) M) → g x env M fun env1 M1 => tb { Z with nx := N, ct := N, bk := Z.nx } env1 M1) →
    (items.all b = true → ∀ env, I env → Z.nx env M) → (items.all b = false → Z.rt (.bl false) M) → ∀ {env : Env3}, I env → forGo g tb Z chk items env M
  | [], _, hn, _, env, hi => ⟨hc, hn rfl env hi⟩
  | x :: xs, st, hn, hf, env, hi => by
    refine ⟨hc, st x (by simp) env hi _ (fun hb env' hi' => ?_) (fun hb => hf (by rw [List.all_cons, hb]; rfl))⟩
    refine forGo_find I b hc (fun y hy => st y (by simp [hy])) (fun h => hn (by rw [List.all_cons, hb, h]; rfl)) (fun h => hf (by rw [List.all_cons, hb, h]; rfl)) hi'
theorem enum_mem {ps : List D} {y : D} (h : y ∈ enumD ps) : ∃ (i : Nat) (p : D), p ∈ ps ∧ i < ps.length ∧ y = .tup [.int (i : Nat), p] := by
  unfold enumD at h
  obtain ⟨i, hi, rfl⟩ := List.mem_mapIdx.mp h
  exact ⟨i, ps[i], List.getElem_mem hi, hi, rfl⟩
end L3
namespace L3.K55
open PySem PySem.Spec PyProof.Rows L2
theorem dl_are_pages_value {M : St3} {ds : List D} {Q : KD} (h : sp1 plP (fun d => .bl (pagesB d)) M ds Q) : td_are_pages_value spPg (E0 Q) (ds.map some ++ List.replicate 2 none) M := by
  obtain ⟨d, rfl, hd, q⟩ := h
  replace q : Q (.bl (pagesB d)) M := q
  have e : vw M d = d := pl_vw hd
  have t := pl_ty hd
  simp only [td_are_pages_value, ↓sSeq_u, ↓sNext_u, ↓sBreak_u, ↓sCont_u, ↓sDrop_u, ↓sRet_u, ↓sRetN_u, ↓sIf_u, ↓sAsg_u, ↓sPut_u, ↓sFor_u, ↓dC_u, ↓dNil_u, ↓dCons_u, ↓dBlt_u, ↓dOp2_u, ↓dUn_u, ↓dMeth_u, ↓dCall_u, ↓dCallK_u, ↓dNotT_u, ↓dAndT_u, ↓dOrT_u, ↓dIf_u, ↓dTup_u, ↓dLst_u, ↓dLstO_u, ↓dSl_u, ↓dNoPart_u, ↓dRev_u, ↓dYes_u, ↓dDic0_u, ↓dLc_u, ↓dEnum_u, ↓dZip_u, ↓gtName_u, ↓dSortSet_u, ↓dSetK_u, ↓dDisp_u, ↓dVar_m, ↓dTru_m, ↓dAnd_m, ↓dOr_m, ↓dNot_m, ↓dChain_m, ↓dIter_m, ↓dRange1_m, ↓dPart_m, ↓gtCons_m, ↓gtNil_m, ↓gtTup_m, ↓sPar_m, ↓oAdd_m, ↓oInt_m, ↓oNeg_m, ↓oOrd_m, ↓oIx_m, ↓oLen_m, ↓oToInt_m, ↓oToTup_m, ↓oToList_m, ↓oGet1_m, ↓oUpper_m, ↓oToStr_m, ↓oPop_m, ↓oAppend_m, ↓oPut_m, ↓oSIndex_m, ↓atI_m, ↓getK_m, ↓oSl, ↓oRev, ↓oIsi_T, ↓oMax2I, ↓oMulI, ↓eqI, ↓eqS, ↓eqL, ↓eqT, ↓neI, ↓neS, ↓neL, ↓neT, vw_non, vw_bl, vw_int, vw_str, vw_tup, vw_lst, vw_dic, vw_raw, vw_obj, truD, keyD, itemsOf, mthTy, lenD, seqD, List.map_cons, List.map_nil, List.cons_append, List.nil_append, List.getElem?_cons_zero, List.getElem?_cons_succ, List.getElem?_nil, List.set_cons_zero, List.set_cons_succ, List.length_cons, List.length_nil, ↓reduceIte, Bool.not_true, Bool.not_false, Bool.false_eq_true, true_and, and_true, List.replicate_zero, List.replicate_succ, List.append_nil, ↓sp1_m, ↓spRow_m, ↓spRis_m, ↓spPl_m, ↓spPg_m, e, kt_t]
  refine ⟨t, ?_⟩
  by_cases hT : isaD d "tuple" = true
  rotate_left
  · have hp : pagesB d = false := by unfold pagesB; split <;> simp_all [isaD, tyD]
    rw [hp] at q; simp only [hT, ↓sSeq_u, ↓sNext_u, ↓sBreak_u, ↓sCont_u, ↓sDrop_u, ↓sRet_u, ↓sRetN_u, ↓sIf_u, ↓sAsg_u, ↓sPut_u, ↓sFor_u, ↓dC_u, ↓dNil_u, ↓dCons_u, ↓dBlt_u, ↓dOp2_u, ↓dUn_u, ↓dMeth_u, ↓dCall_u, ↓dCallK_u, ↓dNotT_u, ↓dAndT_u, ↓dOrT_u, ↓dIf_u, ↓dTup_u, ↓dLst_u, ↓dLstO_u, ↓dSl_u, ↓dNoPart_u, ↓dRev_u, ↓dYes_u, ↓dDic0_u, ↓dLc_u, ↓dEnum_u, ↓dZip_u, ↓gtName_u, ↓dSortSet_u, ↓dSetK_u, ↓dDisp_u, ↓dVar_m, ↓dTru_m, ↓dAnd_m, ↓dOr_m, ↓dNot_m, ↓dChain_m, ↓dIter_m, ↓dRange1_m, ↓dPart_m, ↓gtCons_m, ↓gtNil_m, ↓gtTup_m, ↓sPar_m, ↓oAdd_m, ↓oInt_m, ↓oNeg_m, ↓oOrd_m, ↓oIx_m, ↓oLen_m, ↓oToInt_m, ↓oToTup_m, ↓oToList_m, ↓oGet1_m, ↓oUpper_m, ↓oToStr_m, ↓oPop_m, ↓oAppend_m, ↓oPut_m, ↓oSIndex_m, ↓atI_m, ↓getK_m, ↓oSl, ↓oRev, ↓oIsi_T, ↓oMax2I, ↓oMulI, ↓eqI, ↓eqS, ↓eqL, ↓eqT, ↓neI, ↓neS, ↓neL, ↓neT, vw_non, vw_bl, vw_int, vw_str, vw_tup, vw_lst, vw_dic, vw_raw, vw_obj, truD, keyD, itemsOf, mthTy, lenD, seqD, List.map_cons, List.map_nil, List.cons_append, List.nil_append, List.getElem?_cons_zero, List.getElem?_cons_succ, List.getElem?_nil, List.set_cons_zero, List.set_cons_succ, List.length_cons, List.length_nil, ↓reduceIte, Bool.not_true, Bool.not_false, Bool.false_eq_true, true_and, and_true, List.replicate_zero, List.replicate_succ, List.append_nil, ↓sp1_m, ↓spRow_m, ↓spRis_m, ↓spPl_m, ↓spPg_m]; exact q
  obtain ⟨ps, rfl⟩ : ∃ ps, d = .tup ps := by
    cases d <;> first | exact ⟨_, rfl⟩ | (simp [isaD, tyD] at hT)
  obtain ⟨hps, hpp⟩ := pl_tup hd
  simp only [hT, ↓sSeq_u, ↓sNext_u, ↓sBreak_u, ↓sCont_u, ↓sDrop_u, ↓sRet_u, ↓sRetN_u, ↓sIf_u, ↓sAsg_u, ↓sPut_u, ↓sFor_u, ↓dC_u, ↓dNil_u, ↓dCons_u, ↓dBlt_u, ↓dOp2_u, ↓dUn_u, ↓dMeth_u, ↓dCall_u, ↓dCallK_u, ↓dNotT_u, ↓dAndT_u, ↓dOrT_u, ↓dIf_u, ↓dTup_u, ↓dLst_u, ↓dLstO_u, ↓dSl_u, ↓dNoPart_u, ↓dRev_u, ↓dYes_u, ↓dDic0_u, ↓dLc_u, ↓dEnum_u, ↓dZip_u, ↓gtName_u, ↓dSortSet_u, ↓dSetK_u, ↓dDisp_u, ↓dVar_m, ↓dTru_m, ↓dAnd_m, ↓dOr_m, ↓dNot_m, ↓dChain_m, ↓dIter_m, ↓dRange1_m, ↓dPart_m, ↓gtCons_m, ↓gtNil_m, ↓gtTup_m, ↓sPar_m, ↓oAdd_m, ↓oInt_m, ↓oNeg_m, ↓oOrd_m, ↓oIx_m, ↓oLen_m, ↓oToInt_m, ↓oToTup_m, ↓oToList_m, ↓oGet1_m, ↓oUpper_m, ↓oToStr_m, ↓oPop_m, ↓oAppend_m, ↓oPut_m, ↓oSIndex_m, ↓atI_m, ↓getK_m, ↓oSl, ↓oRev, ↓oIsi_T, ↓oMax2I, ↓oMulI, ↓eqI, ↓eqS, ↓eqL, ↓eqT, ↓neI, ↓neS, ↓neL, ↓neT, vw_non, vw_bl, vw_int, vw_str, vw_tup, vw_lst, vw_dic, vw_raw, vw_obj, truD, keyD, itemsOf, mthTy, lenD, seqD, List.map_cons, List.map_nil, List.cons_append, List.nil_append, List.getElem?_cons_zero, List.getElem?_cons_succ, List.getElem?_nil, List.set_cons_zero, List.set_cons_succ, List.length_cons, List.length_nil, ↓reduceIte, Bool.not_true, Bool.not_false, Bool.false_eq_true, true_and, and_true, List.replicate_zero, List.replicate_succ, List.append_nil, ↓sp1_m, ↓spRow_m, ↓spRis_m, ↓spPl_m, ↓spPg_m, Ord4.iB, pagesB] at q ⊢
  by_cases h1 : (1 : Int) ≤ ps.length
  · have h1' : 1 ≤ ps.length := by omega
    by_cases h2 : (ps.length : Int) ≤ 8
    · have h2' : ps.length ≤ 8 := by omega
      simp only [h1, h2, h1', h2', decide_true, Bool.true_and, ↓sSeq_u, ↓sNext_u, ↓sBreak_u, ↓sCont_u, ↓sDrop_u, ↓sRet_u, ↓sRetN_u, ↓sIf_u, ↓sAsg_u, ↓sPut_u, ↓sFor_u, ↓dC_u, ↓dNil_u, ↓dCons_u, ↓dBlt_u, ↓dOp2_u, ↓dUn_u, ↓dMeth_u, ↓dCall_u, ↓dCallK_u, ↓dNotT_u, ↓dAndT_u, ↓dOrT_u, ↓dIf_u, ↓dTup_u, ↓dLst_u, ↓dLstO_u, ↓dSl_u, ↓dNoPart_u, ↓dRev_u, ↓dYes_u, ↓dDic0_u, ↓dLc_u, ↓dEnum_u, ↓dZip_u, ↓gtName_u, ↓dSortSet_u, ↓dSetK_u, ↓dDisp_u, ↓dVar_m, ↓dTru_m, ↓dAnd_m, ↓dOr_m, ↓dNot_m, ↓dChain_m, ↓dIter_m, ↓dRange1_m, ↓dPart_m, ↓gtCons_m, ↓gtNil_m, ↓gtTup_m, ↓sPar_m, ↓oAdd_m, ↓oInt_m, ↓oNeg_m, ↓oOrd_m, ↓oIx_m, ↓oLen_m, ↓oToInt_m, ↓oToTup_m, ↓oToList_m, ↓oGet1_m, ↓oUpper_m, ↓oToStr_m, ↓oPop_m, ↓oAppend_m, ↓oPut_m, ↓oSIndex_m, ↓atI_m, ↓getK_m, ↓oSl, ↓oRev, ↓oIsi_T, ↓oMax2I, ↓oMulI, ↓eqI, ↓eqS, ↓eqL, ↓eqT, ↓neI, ↓neS, ↓neL, ↓neT, vw_non, vw_bl, vw_int, vw_str, vw_tup, vw_lst, vw_dic, vw_raw, vw_obj, truD, keyD, itemsOf, mthTy, lenD, seqD, List.map_cons, List.map_nil, List.cons_append, List.nil_append, List.getElem?_cons_zero, List.getElem?_cons_succ, List.getElem?_nil, List.set_cons_zero, List.set_cons_succ, List.length_cons, List.length_nil, ↓reduceIte, Bool.not_true, Bool.not_false, Bool.false_eq_true, true_and, and_true, List.replicate_zero, List.replicate_succ, List.append_nil, ↓sp1_m, ↓spRow_m, ↓spRis_m, ↓spPl_m, ↓spPg_m] at q ⊢
      refine .inr ⟨ps, rfl, ?_⟩
      refine lcGo_pure (fun _ => true) (fun y => .bl (pgE ps.length y)) trivial (by unfold enumD; simp only [List.length_mapIdx]; exact sz_le (by simp; omega)) (fun y hy Kn Ks k1 k2 => ?_) ?_
      · obtain ⟨i, p, hp, hi, rfl⟩ := enum_mem hy
        simp only [↓sSeq_u, ↓sNext_u, ↓sBreak_u, ↓sCont_u, ↓sDrop_u, ↓sRet_u, ↓sRetN_u, ↓sIf_u, ↓sAsg_u, ↓sPut_u, ↓sFor_u, ↓dC_u, ↓dNil_u, ↓dCons_u, ↓dBlt_u, ↓dOp2_u, ↓dUn_u, ↓dMeth_u, ↓dCall_u, ↓dCallK_u, ↓dNotT_u, ↓dAndT_u, ↓dOrT_u, ↓dIf_u, ↓dTup_u, ↓dLst_u, ↓dLstO_u, ↓dSl_u, ↓dNoPart_u, ↓dRev_u, ↓dYes_u, ↓dDic0_u, ↓dLc_u, ↓dEnum_u, ↓dZip_u, ↓gtName_u, ↓dSortSet_u, ↓dSetK_u, ↓dDisp_u, ↓dVar_m, ↓dTru_m, ↓dAnd_m, ↓dOr_m, ↓dNot_m, ↓dChain_m, ↓dIter_m, ↓dRange1_m, ↓dPart_m, ↓gtCons_m, ↓gtNil_m, ↓gtTup_m, ↓sPar_m, ↓oAdd_m, ↓oInt_m, ↓oNeg_m, ↓oOrd_m, ↓oIx_m, ↓oLen_m, ↓oToInt_m, ↓oToTup_m, ↓oToList_m, ↓oGet1_m, ↓oUpper_m, ↓oToStr_m, ↓oPop_m, ↓oAppend_m, ↓oPut_m, ↓oSIndex_m, ↓atI_m, ↓getK_m, ↓oSl, ↓oRev, ↓oIsi_T, ↓oMax2I, ↓oMulI, ↓eqI, ↓eqS, ↓eqL, ↓eqT, ↓neI, ↓neS, ↓neL, ↓neT, vw_non, vw_bl, vw_int, vw_str, vw_tup, vw_lst, vw_dic, vw_raw, vw_obj, truD, keyD, itemsOf, mthTy, lenD, seqD, List.map_cons, List.map_nil, List.cons_append, List.nil_append, List.getElem?_cons_zero, List.getElem?_cons_succ, List.getElem?_nil, List.set_cons_zero, List.set_cons_succ, List.length_cons, List.length_nil, ↓reduceIte, Bool.not_true, Bool.not_false, Bool.false_eq_true, true_and, and_true, List.replicate_zero, List.replicate_succ, List.append_nil, ↓sp1_m, ↓spRow_m, ↓spRis_m, ↓spPl_m, ↓spPg_m, wipe3]
        exact ⟨hpp p hp, by omega, k1 rfl⟩
      · rw [filter_T]
        simp only [↓sSeq_u, ↓sNext_u, ↓sBreak_u, ↓sCont_u, ↓sDrop_u, ↓sRet_u, ↓sRetN_u, ↓sIf_u, ↓sAsg_u, ↓sPut_u, ↓sFor_u, ↓dC_u, ↓dNil_u, ↓dCons_u, ↓dBlt_u, ↓dOp2_u, ↓dUn_u, ↓dMeth_u, ↓dCall_u, ↓dCallK_u, ↓dNotT_u, ↓dAndT_u, ↓dOrT_u, ↓dIf_u, ↓dTup_u, ↓dLst_u, ↓dLstO_u, ↓dSl_u, ↓dNoPart_u, ↓dRev_u, ↓dYes_u, ↓dDic0_u, ↓dLc_u, ↓dEnum_u, ↓dZip_u, ↓gtName_u, ↓dSortSet_u, ↓dSetK_u, ↓dDisp_u, ↓dVar_m, ↓dTru_m, ↓dAnd_m, ↓dOr_m, ↓dNot_m, ↓dChain_m, ↓dIter_m, ↓dRange1_m, ↓dPart_m, ↓gtCons_m, ↓gtNil_m, ↓gtTup_m, ↓sPar_m, ↓oAdd_m, ↓oInt_m, ↓oNeg_m, ↓oOrd_m, ↓oIx_m, ↓oLen_m, ↓oToInt_m, ↓oToTup_m, ↓oToList_m, ↓oGet1_m, ↓oUpper_m, ↓oToStr_m, ↓oPop_m, ↓oAppend_m, ↓oPut_m, ↓oSIndex_m, ↓atI_m, ↓getK_m, ↓oSl, ↓oRev, ↓oIsi_T, ↓oMax2I, ↓oMulI, ↓eqI, ↓eqS, ↓eqL, ↓eqT, ↓neI, ↓neS, ↓neL, ↓neT, vw_non, vw_bl, vw_int, vw_str, vw_tup, vw_lst, vw_dic, vw_raw, vw_obj, truD, keyD, itemsOf, mthTy, lenD, seqD, List.map_cons, List.map_nil, List.cons_append, List.nil_append, List.getElem?_cons_zero, List.getElem?_cons_succ, List.getElem?_nil, List.set_cons_zero, List.set_cons_succ, List.length_cons, List.length_nil, ↓reduceIte, Bool.not_true, Bool.not_false, Bool.false_eq_true, true_and, and_true, List.replicate_zero, List.replicate_succ, List.append_nil, ↓sp1_m, ↓spRow_m, ↓spRis_m, ↓spPl_m, ↓spPg_m, ↓reduceIte]
        exact bls (f := pgE ps.length) (fun _ _ => rfl) q
    · have h2' : ¬ (ps.length ≤ 8) := by omega
      simp only [h1, h2, h1', h2', decide_true, decide_false, Bool.true_and, Bool.false_and, ↓sSeq_u, ↓sNext_u, ↓sBreak_u, ↓sCont_u, ↓sDrop_u, ↓sRet_u, ↓sRetN_u, ↓sIf_u, ↓sAsg_u, ↓sPut_u, ↓sFor_u, ↓dC_u, ↓dNil_u, ↓dCons_u, ↓dBlt_u, ↓dOp2_u, ↓dUn_u, ↓dMeth_u, ↓dCall_u, ↓dCallK_u, ↓dNotT_u, ↓dAndT_u, ↓dOrT_u, ↓dIf_u, ↓dTup_u, ↓dLst_u, ↓dLstO_u, ↓dSl_u, ↓dNoPart_u, ↓dRev_u, ↓dYes_u, ↓dDic0_u, ↓dLc_u, ↓dEnum_u, ↓dZip_u, ↓gtName_u, ↓dSortSet_u, ↓dSetK_u, ↓dDisp_u, ↓dVar_m, ↓dTru_m, ↓dAnd_m, ↓dOr_m, ↓dNot_m, ↓dChain_m, ↓dIter_m, ↓dRange1_m, ↓dPart_m, ↓gtCons_m, ↓gtNil_m, ↓gtTup_m, ↓sPar_m, ↓oAdd_m, ↓oInt_m, ↓oNeg_m, ↓oOrd_m, ↓oIx_m, ↓oLen_m, ↓oToInt_m, ↓oToTup_m, ↓oToList_m, ↓oGet1_m, ↓oUpper_m, ↓oToStr_m, ↓oPop_m, ↓oAppend_m, ↓oPut_m, ↓oSIndex_m, ↓atI_m, ↓getK_m, ↓oSl, ↓oRev, ↓oIsi_T, ↓oMax2I, ↓oMulI, ↓eqI, ↓eqS, ↓eqL, ↓eqT, ↓neI, ↓neS, ↓neL, ↓neT, vw_non, vw_bl, vw_int, vw_str, vw_tup, vw_lst, vw_dic, vw_raw, vw_obj, truD, keyD, itemsOf, mthTy, lenD, seqD, List.map_cons, List.map_nil, List.cons_append, List.nil_append, List.getElem?_cons_zero, List.getElem?_cons_succ, List.getElem?_nil, List.set_cons_zero, List.set_cons_succ, List.length_cons, List.length_nil, ↓reduceIte, Bool.not_true, Bool.not_false, Bool.false_eq_true, true_and, and_true, List.replicate_zero, List.replicate_succ, List.append_nil, ↓sp1_m, ↓spRow_m, ↓spRis_m, ↓spPl_m, ↓spPg_m] at q ⊢
      exact q
  · have h1' : ¬ (1 ≤ ps.length) := by omega
    simp only [h1, h1', decide_true, decide_false, Bool.true_and, Bool.false_and, ↓sSeq_u, ↓sNext_u, ↓sBreak_u, ↓sCont_u, ↓sDrop_u, ↓sRet_u, ↓sRetN_u, ↓sIf_u, ↓sAsg_u, ↓sPut_u, ↓sFor_u, ↓dC_u, ↓dNil_u, ↓dCons_u, ↓dBlt_u, ↓dOp2_u, ↓dUn_u, ↓dMeth_u, ↓dCall_u, ↓dCallK_u, ↓dNotT_u, ↓dAndT_u, ↓dOrT_u, ↓dIf_u, ↓dTup_u, ↓dLst_u, ↓dLstO_u, ↓dSl_u, ↓dNoPart_u, ↓dRev_u, ↓dYes_u, ↓dDic0_u, ↓dLc_u, ↓dEnum_u, ↓dZip_u, ↓gtName_u, ↓dSortSet_u, ↓dSetK_u, ↓dDisp_u, ↓dVar_m, ↓dTru_m, ↓dAnd_m, ↓dOr_m, ↓dNot_m, ↓dChain_m, ↓dIter_m, ↓dRange1_m, ↓dPart_m, ↓gtCons_m, ↓gtNil_m, ↓gtTup_m, ↓sPar_m, ↓oAdd_m, ↓oInt_m, ↓oNeg_m, ↓oOrd_m, ↓oIx_m, ↓oLen_m, ↓oToInt_m, ↓oToTup_m, ↓oToList_m, ↓oGet1_m, ↓oUpper_m, ↓oToStr_m, ↓oPop_m, ↓oAppend_m, ↓oPut_m, ↓oSIndex_m, ↓atI_m, ↓getK_m, ↓oSl, ↓oRev, ↓oIsi_T, ↓oMax2I, ↓oMulI, ↓eqI, ↓eqS, ↓eqL, ↓eqT, ↓neI, ↓neS, ↓neL, ↓neT, vw_non, vw_bl, vw_int, vw_str, vw_tup, vw_lst, vw_dic, vw_raw, vw_obj, truD, keyD, itemsOf, mthTy, lenD, seqD, List.map_cons, List.map_nil, List.cons_append, List.nil_append, List.getElem?_cons_zero, List.getElem?_cons_succ, List.getElem?_nil, List.set_cons_zero, List.set_cons_succ, List.length_cons, List.length_nil, ↓reduceIte, Bool.not_true, Bool.not_false, Bool.false_eq_true, true_and, and_true, List.replicate_zero, List.replicate_succ, List.append_nil, ↓sp1_m, ↓spRow_m, ↓spRis_m, ↓spPl_m, ↓spPg_m] at q ⊢
    exact q
theorem dl_are_pages {M : St3} {ds : List D} {Q : KD} (h : sp1 plP (fun d => .bl (pagesB d)) M ds Q) : td_are_pages (sp1 plP (fun d => .bl (pagesB d))) (E0 Q) (ds.map some ++ List.replicate 0 none) M := by
  obtain ⟨d, rfl, hd, q⟩ := h
  simp only [td_are_pages, ↓sSeq_u, ↓sNext_u, ↓sBreak_u, ↓sCont_u, ↓sDrop_u, ↓sRet_u, ↓sRetN_u, ↓sIf_u, ↓sAsg_u, ↓sPut_u, ↓sFor_u, ↓dC_u, ↓dNil_u, ↓dCons_u, ↓dBlt_u, ↓dOp2_u, ↓dUn_u, ↓dMeth_u, ↓dCall_u, ↓dCallK_u, ↓dNotT_u, ↓dAndT_u, ↓dOrT_u, ↓dIf_u, ↓dTup_u, ↓dLst_u, ↓dLstO_u, ↓dSl_u, ↓dNoPart_u, ↓dRev_u, ↓dYes_u, ↓dDic0_u, ↓dLc_u, ↓dEnum_u, ↓dZip_u, ↓gtName_u, ↓dSortSet_u, ↓dSetK_u, ↓dDisp_u, ↓dVar_m, ↓dTru_m, ↓dAnd_m, ↓dOr_m, ↓dNot_m, ↓dChain_m, ↓dIter_m, ↓dRange1_m, ↓dPart_m, ↓gtCons_m, ↓gtNil_m, ↓gtTup_m, ↓sPar_m, ↓oAdd_m, ↓oInt_m, ↓oNeg_m, ↓oOrd_m, ↓oIx_m, ↓oLen_m, ↓oToInt_m, ↓oToTup_m, ↓oToList_m, ↓oGet1_m, ↓oUpper_m, ↓oToStr_m, ↓oPop_m, ↓oAppend_m, ↓oPut_m, ↓oSIndex_m, ↓atI_m, ↓getK_m, ↓oSl, ↓oRev, ↓oIsi_T, ↓oMax2I, ↓oMulI, ↓eqI, ↓eqS, ↓eqL, ↓eqT, ↓neI, ↓neS, ↓neL, ↓neT, vw_non, vw_bl, vw_int, vw_str, vw_tup, vw_lst, vw_dic, vw_raw, vw_obj, truD, keyD, itemsOf, mthTy, lenD, seqD, List.map_cons, List.map_nil, List.cons_append, List.nil_append, List.getElem?_cons_zero, List.getElem?_cons_succ, List.getElem?_nil, List.set_cons_zero, List.set_cons_succ, List.length_cons, List.length_nil, ↓reduceIte, Bool.not_true, Bool.not_false, Bool.false_eq_true, true_and, and_true, List.replicate_zero, List.replicate_succ, List.append_nil, ↓sp1_m, ↓spRow_m, ↓spRis_m, ↓spPl_m, ↓spPg_m]
  exact ⟨hd, q⟩
/-- what is right passes -/
def spNeed (C : D → Prop) : DSp := fun M ds Q => ∃ d, ds = [d] ∧ C d ∧ Q .non M
theorem spNeed_m {C : D → Prop} {M : St3} {d : D} {Q : KD} : spNeed C M [d] Q = (C d ∧ Q .non M) := by
  unfold spNeed; simp
abbrev pgsP (d : D) : Prop := plP d ∧ pagesB d = true
theorem dl_need_pages {M : St3} {ds : List D} {Q : KD} (h : spNeed pgsP M ds Q) : td_need_pages (sp1 plP (fun d => .bl (pagesB d))) (E0 Q) (ds.map some ++ List.replicate 0 none) M := by
  obtain ⟨d, rfl, ⟨hd, hp⟩, q⟩ := h
  simp only [td_need_pages, ↓sSeq_u, ↓sNext_u, ↓sBreak_u, ↓sCont_u, ↓sDrop_u, ↓sRet_u, ↓sRetN_u, ↓sIf_u, ↓sAsg_u, ↓sPut_u, ↓sFor_u, ↓dC_u, ↓dNil_u, ↓dCons_u, ↓dBlt_u, ↓dOp2_u, ↓dUn_u, ↓dMeth_u, ↓dCall_u, ↓dCallK_u, ↓dNotT_u, ↓dAndT_u, ↓dOrT_u, ↓dIf_u, ↓dTup_u, ↓dLst_u, ↓dLstO_u, ↓dSl_u, ↓dNoPart_u, ↓dRev_u, ↓dYes_u, ↓dDic0_u, ↓dLc_u, ↓dEnum_u, ↓dZip_u, ↓gtName_u, ↓dSortSet_u, ↓dSetK_u, ↓dDisp_u, ↓dVar_m, ↓dTru_m, ↓dAnd_m, ↓dOr_m, ↓dNot_m, ↓dChain_m, ↓dIter_m, ↓dRange1_m, ↓dPart_m, ↓gtCons_m, ↓gtNil_m, ↓gtTup_m, ↓sPar_m, ↓oAdd_m, ↓oInt_m, ↓oNeg_m, ↓oOrd_m, ↓oIx_m, ↓oLen_m, ↓oToInt_m, ↓oToTup_m, ↓oToList_m, ↓oGet1_m, ↓oUpper_m, ↓oToStr_m, ↓oPop_m, ↓oAppend_m, ↓oPut_m, ↓oSIndex_m, ↓atI_m, ↓getK_m, ↓oSl, ↓oRev, ↓oIsi_T, ↓oMax2I, ↓oMulI, ↓eqI, ↓eqS, ↓eqL, ↓eqT, ↓neI, ↓neS, ↓neL, ↓neT, vw_non, vw_bl, vw_int, vw_str, vw_tup, vw_lst, vw_dic, vw_raw, vw_obj, truD, keyD, itemsOf, mthTy, lenD, seqD, List.map_cons, List.map_nil, List.cons_append, List.nil_append, List.getElem?_cons_zero, List.getElem?_cons_succ, List.getElem?_nil, List.set_cons_zero, List.set_cons_succ, List.length_cons, List.length_nil, ↓reduceIte, Bool.not_true, Bool.not_false, Bool.false_eq_true, true_and, and_true, List.replicate_zero, List.replicate_succ, List.append_nil, ↓sp1_m, ↓spRow_m, ↓spRis_m, ↓spPl_m, ↓spPg_m, hp]
  exact ⟨hd, q⟩
abbrev mnP (d : D) : Prop := ∃ i : Int, d = .int i ∧ 1 ≤ i ∧ i ≤ 8
theorem spBetween_m {M : St3} {d : D} {a b : Int} {Q : KD} : spBetween M [d, .int a, .int b] Q = (plP d ∧ Q (.bl (isB a b d)) M) := by
  unfold spBetween
  simp only [List.cons.injEq, D.int.injEq, and_true, eq_iff_iff]
  exact ⟨fun ⟨_, _, _, ⟨e1, e2, e3⟩, h⟩ => by subst e1 e2 e3; exact h, fun h => ⟨_, _, _, ⟨rfl, rfl, rfl⟩, h⟩⟩
theorem dl_need_many {M : St3} {ds : List D} {Q : KD} (h : spNeed mnP M ds Q) : td_need_many spBetween (E0 Q) (ds.map some ++ List.replicate 0 none) M := by
  obtain ⟨d, rfl, ⟨i, rfl, h1, h2⟩, q⟩ := h
  have hb : isB 1 8 (.int i) = true := by simp [isB, h1, h2]
  simp only [td_need_many, ↓sSeq_u, ↓sNext_u, ↓sBreak_u, ↓sCont_u, ↓sDrop_u, ↓sRet_u, ↓sRetN_u, ↓sIf_u, ↓sAsg_u, ↓sPut_u, ↓sFor_u, ↓dC_u, ↓dNil_u, ↓dCons_u, ↓dBlt_u, ↓dOp2_u, ↓dUn_u, ↓dMeth_u, ↓dCall_u, ↓dCallK_u, ↓dNotT_u, ↓dAndT_u, ↓dOrT_u, ↓dIf_u, ↓dTup_u, ↓dLst_u, ↓dLstO_u, ↓dSl_u, ↓dNoPart_u, ↓dRev_u, ↓dYes_u, ↓dDic0_u, ↓dLc_u, ↓dEnum_u, ↓dZip_u, ↓gtName_u, ↓dSortSet_u, ↓dSetK_u, ↓dDisp_u, ↓dVar_m, ↓dTru_m, ↓dAnd_m, ↓dOr_m, ↓dNot_m, ↓dChain_m, ↓dIter_m, ↓dRange1_m, ↓dPart_m, ↓gtCons_m, ↓gtNil_m, ↓gtTup_m, ↓sPar_m, ↓oAdd_m, ↓oInt_m, ↓oNeg_m, ↓oOrd_m, ↓oIx_m, ↓oLen_m, ↓oToInt_m, ↓oToTup_m, ↓oToList_m, ↓oGet1_m, ↓oUpper_m, ↓oToStr_m, ↓oPop_m, ↓oAppend_m, ↓oPut_m, ↓oSIndex_m, ↓atI_m, ↓getK_m, ↓oSl, ↓oRev, ↓oIsi_T, ↓oMax2I, ↓oMulI, ↓eqI, ↓eqS, ↓eqL, ↓eqT, ↓neI, ↓neS, ↓neL, ↓neT, vw_non, vw_bl, vw_int, vw_str, vw_tup, vw_lst, vw_dic, vw_raw, vw_obj, truD, keyD, itemsOf, mthTy, lenD, seqD, List.map_cons, List.map_nil, List.cons_append, List.nil_append, List.getElem?_cons_zero, List.getElem?_cons_succ, List.getElem?_nil, List.set_cons_zero, List.set_cons_succ, List.length_cons, List.length_nil, ↓reduceIte, Bool.not_true, Bool.not_false, Bool.false_eq_true, true_and, and_true, List.replicate_zero, List.replicate_succ, List.append_nil, ↓sp1_m, ↓spRow_m, ↓spRis_m, ↓spPl_m, ↓spPg_m, ↓spNeed_m, ↓spBetween_m, hb]
  exact ⟨rfl, q⟩
/-! the law's own look -/
end L3.K55
namespace L3
open PySem PySem.Spec PyProof.Rows L2
section
variable {n : Nat} {R M M' : St3} {x y : MO}
theorem Deck.len (h : Deck n R M) : M.length = R.length + 2 := by
  obtain ⟨cs, mx, dr, rfl, _⟩ := h; simp
theorem Deck.app (h : Deck n R M) (X : St3) : Deck n (R ++ X) (M ++ X) := by
  obtain ⟨cs, mx, dr, rfl, h⟩ := h; exact ⟨cs, mx, dr, by simp, h⟩
/-- what was ahead stays, but for the object t -/
def Frame (t : Nat) (M M' : St3) : Prop := M.length ≤ M'.length ∧ ∀ i, i < M.length → i ≠ t → M'[i]? = M[i]?
theorem Frame.refl (t : Nat) (M : St3) : Frame t M M := ⟨Nat.le_refl _, fun _ _ _ => rfl⟩
theorem Frame.trans {t : Nat} {M M' M2 : St3} (h : Frame t M M') (k : Frame t M' M2) : Frame t M M2 :=
  ⟨Nat.le_trans h.1 k.1, fun i hi ht => (k.2 i (Nat.lt_of_lt_of_le hi h.1) ht).trans (h.2 i hi ht)⟩
theorem Frame.app (t : Nat) (M X : St3) : Frame t M (M ++ X) := ⟨by simp, fun i hi _ => List.getElem?_append_left hi⟩
theorem Frame.deck {t : Nat} (h : Frame t M M') (D : Deck n R M) (ht : 2 ≤ t) : ∃ R', Deck n R' M' := by
  obtain ⟨cs, mx, dr, rfl, h1⟩ := D
  have e0 := h.2 0 (by simp) (by omega)
  have e1 := h.2 1 (by simp) (by omega)
  match M', e0, e1 with
  | [], e0, _ => simp at e0
  | [a], _, e1 => simp at e1
  | a :: b :: r, e0, e1 =>
    simp at e0 e1
    subst e0 e1
    exact ⟨r, cs, mx, dr, rfl, h1⟩
end
/-! ### dicts of texts -/
def ksK (ks : List Str) : List Key := ks.map Sum.inr
def valsC (ks : List Str) (c : Str → D) : List D := ks.map c
theorem memK_str {x : Str} {ks : List Str} : memK (.inr x) (ksK ks) = decide (x ∈ ks) := by
  rw [Bool.eq_iff_iff, memK_iff, decide_eq_true_eq, ksK, List.mem_map]
  exact ⟨fun ⟨y, hy, e⟩ => by cases e; exact hy, fun h => ⟨x, h, rfl⟩⟩
theorem getC_in {x : Str} {c : Str → D} : ∀ {ks : List Str}, x ∈ ks → getK (ksK ks) (valsC ks c) (.inr x) = some (c x)
  | [], h => by cases h
  | k :: r, h => by
    show (if (Sum.inr k : Key) = .inr x then some (c k) else getK (ksK r) (valsC r c) (.inr x)) = _
    by_cases e : k = x
    · rw [if_pos (by rw [e]), e]
    · rw [if_neg (fun z => e (Sum.inr.inj z))]
      rcases List.mem_cons.mp h with h | h
      · exact absurd h.symm e
      · exact getC_in h
def setC (c : Str → D) (x : Str) (d : D) : Str → D := fun y => if y = x then d else c y
theorem setKC {x : Str} {c : Str → D} {d : D} : ∀ {ks : List Str}, setKD (ksK ks) (valsC ks c) (.inr x) d = valsC ks (setC c x d)
  | [] => rfl
  | k :: r => by
    show (if (Sum.inr k : Key) = .inr x then d else c k) :: setKD (ksK r) (valsC r c) (.inr x) d = setC c x d k :: valsC r (setC c x d)
    rw [setKC, setC]
    by_cases e : k = x
    · rw [if_pos (by rw [e]), if_pos e]
    · rw [if_neg (fun z => e (Sum.inr.inj z)), if_neg e]
theorem putC {x : Str} {c : Str → D} {d : D} {ks : List Str} (n : ks.Nodup) : ∃ ks' : List Str, putKs (ksK ks) (.inr x) = ksK ks' ∧ putDs (ksK ks) (valsC ks c) (.inr x) d = valsC ks' (setC c x d) ∧ ks'.Nodup ∧ (∀ y, y ∈ ks' ↔ y ∈ ks ∨ y = x) ∧ ks'.length ≤ ks.length + 1 := by
  unfold putKs putDs
  by_cases h : x ∈ ks
  · refine ⟨ks, ?_, ?_, n, fun y => ⟨.inl, fun z => z.elim id fun e => by rw [e]; exact h⟩, by omega⟩
    · rw [if_pos (by rw [memK_str]; simpa using h)]
    · rw [if_pos (by rw [memK_str]; simpa using h), setKC]
  · refine ⟨ks ++ [x], ?_, ?_, ?_, fun y => by simp, by simp⟩
    · rw [if_neg (by rw [memK_str]; simpa using h)]; simp [ksK]
    · rw [if_neg (by rw [memK_str]; simpa using h)]
      unfold valsC
      rw [List.map_append]
      congr 1
      · refine List.map_congr_left fun y hy => ?_
        unfold setC
        rw [if_neg (fun e => h (by rw [← e]; exact hy))]
      · simp [setC]
    · rw [List.nodup_append]
      exact ⟨n, by simp, fun a ha b hb => by simp at hb; subst hb; exact fun e => h (by rw [← e]; exact ha)⟩
theorem dropC_ks {x : Str} {ks : List Str} : dropKs (ksK ks) (.inr x) = ksK (ks.filter fun y => decide (y ≠ x)) := by
  unfold dropKs ksK
  rw [List.filter_map]
  congr 1
  exact List.filter_congr fun y _ => by simp
theorem dropC_ds {x : Str} {c : Str → D} : ∀ {ks : List Str}, dropDs (ksK ks) (valsC ks c) (.inr x) = valsC (ks.filter fun y => decide (y ≠ x)) c
  | [] => rfl
  | k :: r => by
    show (if (Sum.inr k : Key) = .inr x then dropDs (ksK r) (valsC r c) (.inr x) else c k :: dropDs (ksK r) (valsC r c) (.inr x)) = _
    rw [dropC_ds]
    by_cases e : k = x
    · rw [if_pos (by rw [e]), List.filter_cons_of_neg (by simp [e])]
    · rw [if_neg (fun z => e (Sum.inr.inj z)), List.filter_cons_of_pos (by simp [e])]; rfl
theorem pairsC (c : Str → D) : ∀ L : List Str, pairsOf (L.map fun x => .tup [.str x, c x]) = some (L.map fun x => (Sum.inr x, c x))
  | [] => rfl
  | x :: r => by
    simp only [List.map_cons, pairsOf, pairOf, keyD, Option.map_some, pairsC c r]
theorem mergeC (c : Str → D) : ∀ (B A : List Str), (A ++ B).Nodup → mergeD (ksK A) (valsC A c) (B.map fun x => (Sum.inr x, c x)) = (ksK (A ++ B), valsC (A ++ B) c)
  | [], A, _ => by simp [mergeD]
  | x :: r, A, h => by
    have hx : x ∉ A := fun hA => by
      rw [List.nodup_append] at h
      exact h.2.2 x hA x (by simp) rfl
    have e1 : putKs (ksK A) (.inr x) = ksK (A ++ [x]) := by
      unfold putKs; rw [if_neg (by rw [memK_str]; simpa using hx)]; simp [ksK]
    have e2 : putDs (ksK A) (valsC A c) (.inr x) (c x) = valsC (A ++ [x]) c := by
      unfold putDs; rw [if_neg (by rw [memK_str]; simpa using hx)]; simp [valsC]
    simp only [List.map_cons, mergeD, e1, e2]
    rw [mergeC c r (A ++ [x]) (by simpa using h)]
    simp
theorem kD_strs (ks : List Str) : (ksK ks).map kD = ks.map .str := by unfold ksK; rw [List.map_map]; rfl
theorem sorted_dict {M : St3} {a : D} {ks : List Str} {es : List D} {P : KD} (h : vw M a = .dic (ksK ks) es) (hs : ∀ x ∈ ks, x.length ≤ 3000) (q : P (.lst ((sortS ks).map .str)) M) : oSorted false M [a] P := by
  refine ⟨a, ks.map .str, rfl, .inr ⟨_, _, h, (kD_strs ks).symm, fun x hx => ?_⟩, sortC_str ks, ?_⟩
  · obtain ⟨y, hy, e⟩ := List.mem_map.mp hx
    cases e
    have := hs x hy
    rw [sizeLine_eq]; omega
  · rw [sortD_str]; exact q
theorem sortS_mem {ks : List Str} {x : Str} : x ∈ sortS ks ↔ x ∈ ks := (sortS_perm ks).mem_iff
theorem sortS_len (ks : List Str) : (sortS ks).length = ks.length := (sortS_perm ks).length_eq
theorem sortS_nd {ks : List Str} (h : ks.Nodup) : (sortS ks).Nodup := (sortS_perm ks).nodup_iff.mpr h
theorem sortS_congr {A B : List Str} (a : A.Nodup) (b : B.Nodup) (h : ∀ x, x ∈ A ↔ x ∈ B) : sortS A = sortS B := by
  refine List.Perm.eq_of_pairwise (le := fun a b => leS a b = true) (fun x y _ _ h1 h2 => leS_asymm x y h1 h2) (sortS_pw A) (sortS_pw B) ?_
  exact (sortS_perm A).trans (((List.perm_ext_iff_of_nodup a b).mpr h).trans (sortS_perm B).symm)
/-! pairs of a text and a whole number, sorted -/
def prC (c : Str → Int) (x : Str) : D := .tup [.str x, .int (c x)]
theorem prC_lt {c : Str → Int} {x y : Str} (h : ltS x y) : PySem.W.dataLe false D.toP (prC c x) (prC c y) = true := by
  rw [PySem.W.dataLe_eq]
  simp only [cond_false, prC, D.toP, D.toPs]
  rw [PySem.W.dataLt_pair (by rfl) (by rfl)]
  have hn : x ≠ y := (ltS_iff.mp h).2
  have e : PyData.eqv (.str y) (.str x) = false := by
    simp only [PyData.eqv]
    simpa using fun z : y = x => hn z.symm
  rw [e, if_neg (by decide), PySem.W.dataLt_str]
  simp only [Bool.not_eq_true', decide_eq_false_iff_not]
  exact fun z => List.lt_irrefl _ (List.lt_trans h z)
theorem sort_prC {c : Str → Int} {L : List Str} (n : L.Nodup) : sortD (L.map (prC c)) = (sortS L).map (prC c) := by
  have h1 : sortD (L.map (prC c)) = sortD ((sortS L).map (prC c)) := sortD_perm ((sortS_perm L).symm.map _) fun a b ha hb e => by
    obtain ⟨x, _, rfl⟩ := List.mem_map.mp ha
    obtain ⟨y, _, rfl⟩ := List.mem_map.mp hb
    simp only [prC, D.toP, D.toPs, PySem.W.keyToks, PySem.W.keyToksAll, List.cons.injEq, List.cons_append, List.nil_append, Sum.inr.injEq] at e
    rw [PySem.W.str_of_cps e.2.1]
  rw [h1]
  exact List.mergeSort_of_pairwise (List.pairwise_map.mpr ((sortS_lt n).imp fun h => prC_lt h))
theorem prC_sortC (c : Str → Int) (L : List Str) : sortC (L.map (prC c)) := by
  refine ⟨?_, ?_, .inl ?_, ?_⟩
  · rw [pus_all]
    exact List.all_eq_true.mpr fun d hd => by obtain ⟨x, _, rfl⟩ := List.mem_map.mp hd; rfl
  · intro d hd e he
    obtain ⟨a, ha, rfl⟩ := List.mem_map.mp hd
    obtain ⟨b, hb, rfl⟩ := List.mem_map.mp he
    obtain ⟨a, _, rfl⟩ := List.mem_map.mp ha
    obtain ⟨b, _, rfl⟩ := List.mem_map.mp hb
    rfl
  · intro d hd
    obtain ⟨a, ha, rfl⟩ := List.mem_map.mp hd
    obtain ⟨a, _, rfl⟩ := List.mem_map.mp ha
    exact ⟨_, _, rfl⟩
  · intro d hd
    obtain ⟨a, _, rfl⟩ := List.mem_map.mp hd
    simp [prC, dDep, D.toP, D.toPs, PyData.depth, PyData.depthAll]
end L3
namespace L3.K55
open PySem PySem.Spec PyProof.Rows L2
/-! ### rows, pages, and what rows do to them -/
def oD : Option Int → D | some v => .int v | none => .non
inductive Rw where
  | beg (d : Int) (r : Str) (hs : List Int) | rd (d : Int) (k : Str) | wr (d : Int) (k : Str) (o n : Option Int) | un (d : Int) (k : Str) (w : Option Int) | mk (d : Int) (w : Str) | en (d : Int) (w : Str)
def Rw.D : Rw → D
  | .beg d r hs => .tup [.str "begin", .int d, .str r, .tup (hs.map .int)]
  | .rd d k => .tup [.str "read", .int d, .str k]
  | .wr d k o n => .tup [.str "write", .int d, .str k, oD o, oD n]
  | .un d k w => .tup [.str "undo", .int d, .str k, oD w]
  | .mk d w => .tup [.str "mark", .int d, .str w]
  | .en d w => .tup [.str "end", .int d, .str w]
def words8 : List Str := ["a", "b", "ab", "key", "zz", "abcdefghij", "q", "z"]
def words5 : List Str := ["kept", "yes", "ready", "abcdefghij", "m"]
def hs5 : List (List Int) := [[0, 1], [1, 0, 3], [3, 2, 1, 0], [2, 0], [0, 1, 2, 3]]
def wv (o : Option Int) : Prop := ∀ v, o = some v → v.natAbs ≤ 999999999
def dlo (d : Int) : Prop := 0 ≤ d ∧ d ≤ 123456789
def Rw.ok : Rw → Prop
  | .beg d r hs => dlo d ∧ (r = "leader" ∨ r = "member") ∧ hs ∈ hs5
  | .rd d k => dlo d ∧ k ∈ words8
  | .wr d k o n => dlo d ∧ k ∈ words8 ∧ wv o ∧ wv n
  | .un d k w => dlo d ∧ k ∈ words8 ∧ wv w
  | .mk d w => dlo d ∧ w ∈ words5
  | .en d w => dlo d ∧ (w = "kept" ∨ w = "dropped")
def Rw.touch : Rw → Option (Str × Option Int) | .wr _ k _ n => some (k, n) | .un _ k w => some (k, w) | _ => none
abbrev Pg := Int × (Str → Option Int)
abbrev Sg := Nat → Pg
def upd1 (f : Str → Option Int) (k : Str) (w : Option Int) : Str → Option Int := fun y => if y = k then w else f y
def stepP (m : Int) (a : Nat) (i : Int) (r : Rw) (p : Pg) : Pg := match r.touch with
  | some (k, w) => if plS k m = (a : Nat) ∧ p.1 < i then (i, upd1 p.2 k w) else p
  | none => p
def foldP (m : Int) (a : Nat) : Int → List Rw → Pg → Pg
  | _, [], p => p
  | i, r :: rs, p => foldP m a (i + 1) rs (stepP m a i r p)
abbrev stepS (m i : Int) (r : Rw) (σ : Sg) : Sg := fun a => stepP m a i r (σ a)
abbrev foldS (m i : Int) (rs : List Rw) (σ : Sg) : Sg := fun a => foldP m a i rs (σ a)
def p0 : Pg := (0, fun _ => none)
def s0 : Sg := fun _ => p0
section
variable {m i : Int} {a : Nat} {r : Rw} {p : Pg}
theorem stepP_ge : p.1 ≤ (stepP m a i r p).1 := by
  unfold stepP
  split
  · split
    · rename_i h; exact Int.le_of_lt h.2
    · exact Int.le_refl _
  · exact Int.le_refl _
theorem foldP_ge : ∀ (rs : List Rw) (i : Int) (p : Pg), p.1 ≤ (foldP m a i rs p).1
  | [], _, _ => Int.le_refl _
  | r :: rs, i, p => Int.le_trans stepP_ge (foldP_ge rs (i + 1) _)
theorem foldP_app : ∀ (A B : List Rw) (i : Int) (p : Pg), foldP m a i (A ++ B) p = foldP m a (i + A.length) B (foldP m a i A p)
  | [], B, i, p => by simp [foldP]
  | r :: A, B, i, p => by
    simp only [List.cons_append, foldP, List.length_cons, foldP_app A B]
    congr 1
    omega
/-- that a row is for the page -/
def hits (m : Int) (a : Nat) (r : Rw) : Prop := ∃ k w, r.touch = some (k, w) ∧ plS k m = (a : Nat)
theorem stepP_old (h : hits m a r → i ≤ p.1) : stepP m a i r p = p := by
  unfold stepP
  split
  · rename_i k w e
    rw [if_neg]
    rintro ⟨h1, h2⟩
    have := h ⟨k, w, e, h1⟩
    omega
  · rfl
theorem stepP_new (h : hits m a r) : i ≤ (stepP m a i r p).1 := by
  obtain ⟨k, w, e, h1⟩ := h
  unfold stepP
  rw [e]
  show i ≤ (if plS k m = (a : Nat) ∧ p.1 < i then ((i, upd1 p.2 k w) : Pg) else p).1
  split
  · exact Int.le_refl _
  · omega
theorem foldP_old : ∀ (rs : List Rw) (i : Int) (p : Pg), (∀ (j : Nat) (r : Rw), rs[j]? = some r → hits m a r → i + (j : Int) ≤ p.1) → foldP m a i rs p = p
  | [], _, _, _ => rfl
  | r :: rs, i, p, h => by
    have e : stepP m a i r p = p := stepP_old fun hr => by have := h 0 r rfl hr; simpa using this
    simp only [foldP, e]
    exact foldP_old rs (i + 1) p fun j q hj hq => by have := h (j + 1) q (by simpa using hj) hq; simp at this ⊢; omega
theorem foldP_seen : ∀ (rs : List Rw) (i : Int) (p : Pg) (j : Nat) (r : Rw), rs[j]? = some r → hits m a r → i + (j : Int) ≤ (foldP m a i rs p).1
  | [], _, _, _, _, h, _ => by simp at h
  | q :: rs, i, p, 0, r, h, hr => by
    simp at h; subst h
    have h1 := stepP_new (i := i) (p := p) hr
    have h2 := foldP_ge (m := m) (a := a) rs (i + 1) (stepP m a i q p)
    simp only [foldP]; simp; omega
  | q :: rs, i, p, j + 1, r, h, hr => by
    have := foldP_seen rs (i + 1) (stepP m a i q p) j r (by simpa using h) hr
    simp only [foldP]; simp; omega
/-- rows that were done do nothing: done again, the later ones tell -/
theorem foldP_again (L : List Rw) (n n2 : Nat) (p : Pg) : foldP m a 1 (L.take n2) (foldP m a 1 (L.take n) p) = foldP m a 1 (L.take (max n n2)) p := by
  have old : ∀ k, k ≤ n → foldP m a 1 (L.take k) (foldP m a 1 (L.take n) p) = foldP m a 1 (L.take n) p := fun k hk => foldP_old _ _ _ fun j r hj hr => by
    refine foldP_seen (L.take n) 1 p j r ?_ hr
    rw [List.getElem?_take] at hj ⊢
    split at hj
    · rw [if_pos (by omega)]; exact hj
    · cases hj
  rcases Nat.le_total n2 n with h | h
  · rw [old n2 h, Nat.max_eq_left h]
  · rw [Nat.max_eq_right h]
    have e : L.take n2 = L.take n ++ (L.take n2).drop n := by
      have : (L.take n2).take n = L.take n := by rw [List.take_take, Nat.min_eq_left h]
      rw [← this, List.take_append_drop]
    rw [e, foldP_app, foldP_app, old n (Nat.le_refl _)]
end
def lastF (f : Str → Option Int) : List Rw → Str → Option Int
  | [] => f
  | r :: rs => lastF (match r.touch with | some (k, w) => upd1 f k w | none => f) rs
theorem plS_nat (k : Str) {m : Int} (h : 0 < m) : (((plS k m).toNat : Nat) : Int) = plS k m := by
  have := Int.emod_nonneg (List.map idx k.cps.toList).sum (by omega : m ≠ 0)
  unfold plS; omega
theorem fold_last {m : Int} (hm : 0 < m) : ∀ (rs : List Rw) (i : Int) (σ : Sg) (f : Str → Option Int), (∀ a, (σ a).1 < i) → (∀ k, (σ (plS k m).toNat).2 k = f k) → ∀ k, (foldS m i rs σ (plS k m).toNat).2 k = lastF f rs k
  | [], _, _, _, _, h, k => h k
  | r :: rs, i, σ, f, hl, h, k => by
    simp only [foldS, foldP, lastF]
    refine fold_last hm rs (i + 1) (stepS m i r σ) _ (fun a => ?_) (fun y => ?_) k
    · unfold stepS stepP
      split
      · split
        · show i < i + 1; omega
        · have := hl a; omega
      · have := hl a; omega
    · unfold stepS stepP
      cases e : r.touch with
      | none => exact h y
      | some q =>
        obtain ⟨k', w⟩ := q
        simp only
        have hy := plS_nat y hm
        by_cases hk : plS k' m = plS y m
        · rw [if_pos ⟨by rw [hy]; exact hk, hl _⟩]
          show (if y = k' then w else (σ (plS y m).toNat).2 y) = if y = k' then w else f y
          rw [h y]
        · rw [if_neg (fun z => hk (by rw [← hy]; exact z.1))]
          unfold upd1
          rw [if_neg (fun z => hk (by rw [z]))]
          exact h y
end L3.K55
namespace L3
open PySem PySem.Spec PyProof.Rows L2
theorem toPs_strs (xs : List Str) (x : Str) : ((D.toPs (xs.map .str)).any fun y => PyData.eqv y (D.str x).toP) = xs.any fun y => decide (y = x) := by
  rw [toPs_str, List.any_map]
  congr 1
theorem oIn_strs {neg : Bool} {M : St3} {P : KD} {x : Str} {xs : List Str} : oIn neg M [.str x, .tup (xs.map .str)] P = P (.bl (neg != xs.any fun y => decide (y = x))) M := by
  unfold oIn
  simp only [List.cons.injEq, and_true, eq_iff_iff]
  constructor
  · rintro ⟨_, _, ⟨rfl, rfl⟩, _, q⟩
    rw [← toPs_strs]; exact q
  · intro q
    refine ⟨_, _, ⟨rfl, rfl⟩, ⟨rfl, pus_str xs, by simp [dDep, D.toP, PyData.depth]⟩, ?_⟩
    rw [toPs_strs]; exact q
theorem oIsN_m {neg : Bool} {M : St3} {P : KD} {a : D} (h : notRaw a = true) : oIsD neg M [a, .non] P = P (.bl (neg != isNonD a)) M := by
  unfold oIsD
  simp [h]
/-- a comprehension that may change the store: an invariant -/
theorem lcGo_inv {g : TDG} {tt : TDT} {te : TD} {chk : St3 → Prop} {env0 : Env3} {P : List D → St3 → Prop} (N : Nat) (I : List D → St3 → Prop) (hc : ∀ acc M, I acc M → chk M) : ∀ {xs acc : List D} {M : St3}, acc.length + xs.length = N → N ≤ sizeLine →
    (∀ x ∈ xs, ∀ acc M, acc.length < N → I acc M → ∀ (Kn : St3 → Prop) (Ks : KD), (∀ d M', I (acc ++ [d]) M' → Ks d M') → g x env0 M fun env1 M1 => tt env1 M1 fun b M2 => if b = true then te env1 M2 Ks else Kn M2) →
    (∀ acc' M', I acc' M' → acc'.length = N → P acc' M') → I acc M → lcGo g tt te chk env0 P xs acc M
  | [], acc, M, hN, hl, h, q, hI => ⟨hc _ _ hI, q _ _ hI (by simpa using hN)⟩
  | x :: xs, acc, M, hN, hl, h, q, hI => by
    simp only [List.length_cons] at hN
    refine ⟨hc _ _ hI, h x (by simp) acc M (by omega) hI _ _ fun d M' hI' => ⟨by omega, ?_⟩⟩
    exact lcGo_inv N I hc (by simp; omega) hl (fun y hy => h y (by simp [hy])) q hI'
end L3
namespace L3.K55
open PySem PySem.Spec PyProof.Rows L2
/-- drawn: at most c draws, from arguments as told by A, something told by P -/
def spDrw (c : Nat) (A : List D → Prop) (P : D → Prop) : DSp := fun M ds Q => ∃ (as : List D) (n : Nat) (R : St3), ds = .obj 1 :: as ∧ A as ∧ n + c ≤ dkMax ∧ Deck n R M ∧ ∀ x M', P x → Deck (n + c) R M' → Q x M'
theorem spDraw_m {M : St3} {k : Int} {Q : KD} : spDraw M [.obj 1, .int k] Q = ∃ (n : Nat) (R : St3), ((0 < k ∧ k < 2 ^ 60) ∧ n ≤ dkMax) ∧ Deck n R M ∧ ∀ r M', 0 ≤ r → r < k → Deck (n + 1) R M' → Q (.int r) M' := by
  unfold spDraw
  simp only [List.cons.injEq, D.int.injEq, and_true, true_and, eq_iff_iff]
  exact ⟨fun ⟨_, n, R, e, a, b, c⟩ => by subst e; exact ⟨n, R, ⟨a, b⟩, c⟩, fun ⟨n, R, ⟨a, b⟩, c⟩ => ⟨_, n, R, rfl, a, b, c⟩⟩
theorem pick_ok {M : St3} {xs : List D} {Q : KD} {n : Nat} {R : St3} (h0 : xs ≠ []) (h1 : xs.length < 2 ^ 60) (hn : n + 1 ≤ dkMax) (hD : Deck n R M) (P : D → Prop) (hP : ∀ x ∈ xs, P x) (q : ∀ x M', P x → Deck (n + 1) R M' → Q x M') : spPick M [.obj 1, .lst xs] Q :=
  ⟨xs, n, R, rfl, ⟨h0, h1⟩, by omega, hD, fun x M' hx hD' => q x M' (hP x hx) hD'⟩
def keyP (d : D) : Prop := ∃ k, d = .str k ∧ k ∈ words8
def wthP (d : D) : Prop := ∃ o, d = oD o ∧ wv o
def dlP (d : D) : Prop := ∃ i, d = .int i ∧ dlo i
def rwP (d : D) : Prop := ∃ r : Rw, d = r.D ∧ r.ok
theorem dl_law_key {M : St3} {ds : List D} {Q : KD} (h : spDrw 1 (· = []) keyP M ds Q) : td_law_key spPick (E0 Q) (ds.map some ++ List.replicate 0 none) M := by
  obtain ⟨as, n, R, rfl, rfl, hn, hD, q⟩ := h
  simp only [td_law_key, ↓sSeq_u, ↓sNext_u, ↓sBreak_u, ↓sCont_u, ↓sDrop_u, ↓sRet_u, ↓sRetN_u, ↓sIf_u, ↓sAsg_u, ↓sPut_u, ↓sFor_u, ↓dC_u, ↓dNil_u, ↓dCons_u, ↓dBlt_u, ↓dOp2_u, ↓dUn_u, ↓dMeth_u, ↓dCall_u, ↓dCallK_u, ↓dNotT_u, ↓dAndT_u, ↓dOrT_u, ↓dIf_u, ↓dTup_u, ↓dLst_u, ↓dLstO_u, ↓dSl_u, ↓dNoPart_u, ↓dRev_u, ↓dYes_u, ↓dDic0_u, ↓dLc_u, ↓dEnum_u, ↓dZip_u, ↓gtName_u, ↓dSortSet_u, ↓dSetK_u, ↓dDisp_u, ↓dVar_m, ↓dTru_m, ↓dAnd_m, ↓dOr_m, ↓dNot_m, ↓dChain_m, ↓dIter_m, ↓dRange1_m, ↓dPart_m, ↓gtCons_m, ↓gtNil_m, ↓gtTup_m, ↓sPar_m, ↓oAdd_m, ↓oInt_m, ↓oNeg_m, ↓oOrd_m, ↓oIx_m, ↓oLen_m, ↓oToInt_m, ↓oToTup_m, ↓oToList_m, ↓oGet1_m, ↓oUpper_m, ↓oToStr_m, ↓oPop_m, ↓oAppend_m, ↓oPut_m, ↓oSIndex_m, ↓atI_m, ↓getK_m, ↓oSl, ↓oRev, ↓oIsi_T, ↓oMax2I, ↓oMulI, ↓eqI, ↓eqS, ↓eqL, ↓eqT, ↓neI, ↓neS, ↓neL, ↓neT, vw_non, vw_bl, vw_int, vw_str, vw_tup, vw_lst, vw_dic, vw_raw, vw_obj, truD, keyD, itemsOf, mthTy, lenD, seqD, List.map_cons, List.map_nil, List.cons_append, List.nil_append, List.getElem?_cons_zero, List.getElem?_cons_succ, List.getElem?_nil, List.set_cons_zero, List.set_cons_succ, List.length_cons, List.length_nil, ↓reduceIte, Bool.not_true, Bool.not_false, Bool.false_eq_true, true_and, and_true, List.replicate_zero, List.replicate_succ, List.append_nil, ↓sp1_m, ↓spRow_m, ↓spRis_m, ↓spPl_m, ↓spPg_m, ↓spDraw_m, ↓oIn_strs]
  refine ⟨sz_le (by decide), pick_ok (by simp) (by simp) hn hD keyP (fun x hx => ?_) q⟩
  have : x ∈ words8.map D.str := hx
  obtain ⟨k, hk, rfl⟩ := List.mem_map.mp this
  exact ⟨k, rfl, hk⟩
theorem dl_law_worth {M : St3} {ds : List D} {Q : KD} (h : spDrw 2 (· = []) wthP M ds Q) : td_law_worth spPick spDraw (E0 Q) (ds.map some ++ List.replicate 0 none) M := by
  obtain ⟨as, n, R, rfl, rfl, hn, hD, q⟩ := h
  have hn' : n + 2 ≤ 1000000 := hn
  simp only [td_law_worth, ↓sSeq_u, ↓sNext_u, ↓sBreak_u, ↓sCont_u, ↓sDrop_u, ↓sRet_u, ↓sRetN_u, ↓sIf_u, ↓sAsg_u, ↓sPut_u, ↓sFor_u, ↓dC_u, ↓dNil_u, ↓dCons_u, ↓dBlt_u, ↓dOp2_u, ↓dUn_u, ↓dMeth_u, ↓dCall_u, ↓dCallK_u, ↓dNotT_u, ↓dAndT_u, ↓dOrT_u, ↓dIf_u, ↓dTup_u, ↓dLst_u, ↓dLstO_u, ↓dSl_u, ↓dNoPart_u, ↓dRev_u, ↓dYes_u, ↓dDic0_u, ↓dLc_u, ↓dEnum_u, ↓dZip_u, ↓gtName_u, ↓dSortSet_u, ↓dSetK_u, ↓dDisp_u, ↓dVar_m, ↓dTru_m, ↓dAnd_m, ↓dOr_m, ↓dNot_m, ↓dChain_m, ↓dIter_m, ↓dRange1_m, ↓dPart_m, ↓gtCons_m, ↓gtNil_m, ↓gtTup_m, ↓sPar_m, ↓oAdd_m, ↓oInt_m, ↓oNeg_m, ↓oOrd_m, ↓oIx_m, ↓oLen_m, ↓oToInt_m, ↓oToTup_m, ↓oToList_m, ↓oGet1_m, ↓oUpper_m, ↓oToStr_m, ↓oPop_m, ↓oAppend_m, ↓oPut_m, ↓oSIndex_m, ↓atI_m, ↓getK_m, ↓oSl, ↓oRev, ↓oIsi_T, ↓oMax2I, ↓oMulI, ↓eqI, ↓eqS, ↓eqL, ↓eqT, ↓neI, ↓neS, ↓neL, ↓neT, vw_non, vw_bl, vw_int, vw_str, vw_tup, vw_lst, vw_dic, vw_raw, vw_obj, truD, keyD, itemsOf, mthTy, lenD, seqD, List.map_cons, List.map_nil, List.cons_append, List.nil_append, List.getElem?_cons_zero, List.getElem?_cons_succ, List.getElem?_nil, List.set_cons_zero, List.set_cons_succ, List.length_cons, List.length_nil, ↓reduceIte, Bool.not_true, Bool.not_false, Bool.false_eq_true, true_and, and_true, List.replicate_zero, List.replicate_succ, List.append_nil, ↓sp1_m, ↓spRow_m, ↓spRis_m, ↓spPl_m, ↓spPg_m, ↓spDraw_m, ↓oIn_strs]
  refine ⟨n, R, ⟨⟨by decide, by decide⟩, by omega⟩, hD, fun r M' r0 r1 hD' => ⟨sz_le (by decide), pick_ok (by simp) (by simp) (by omega) hD' wthP (fun x hx => ?_) q⟩⟩
  simp only [List.mem_cons, List.not_mem_nil, or_false] at hx
  rcases hx with rfl | rfl | rfl | rfl | rfl | rfl | rfl | rfl | rfl
  · exact ⟨some 0, rfl, fun v e => by cases e; decide⟩
  · exact ⟨some 1, rfl, fun v e => by cases e; decide⟩
  · exact ⟨some (-1), rfl, fun v e => by cases e; decide⟩
  · exact ⟨none, rfl, fun v e => by cases e⟩
  · exact ⟨some 7, rfl, fun v e => by cases e; decide⟩
  · exact ⟨some (-20), rfl, fun v e => by cases e; decide⟩
  · exact ⟨some 999999999, rfl, fun v e => by cases e; decide⟩
  · exact ⟨some (-999999999), rfl, fun v e => by cases e; decide⟩
  · exact ⟨some r, rfl, fun v e => by cases e; omega⟩
theorem dl_law_deal {M : St3} {ds : List D} {Q : KD} (h : spDrw 2 (· = []) dlP M ds Q) : td_law_deal spPick spDraw (E0 Q) (ds.map some ++ List.replicate 0 none) M := by
  obtain ⟨as, n, R, rfl, rfl, hn, hD, q⟩ := h
  have hn' : n + 2 ≤ 1000000 := hn
  simp only [td_law_deal, ↓sSeq_u, ↓sNext_u, ↓sBreak_u, ↓sCont_u, ↓sDrop_u, ↓sRet_u, ↓sRetN_u, ↓sIf_u, ↓sAsg_u, ↓sPut_u, ↓sFor_u, ↓dC_u, ↓dNil_u, ↓dCons_u, ↓dBlt_u, ↓dOp2_u, ↓dUn_u, ↓dMeth_u, ↓dCall_u, ↓dCallK_u, ↓dNotT_u, ↓dAndT_u, ↓dOrT_u, ↓dIf_u, ↓dTup_u, ↓dLst_u, ↓dLstO_u, ↓dSl_u, ↓dNoPart_u, ↓dRev_u, ↓dYes_u, ↓dDic0_u, ↓dLc_u, ↓dEnum_u, ↓dZip_u, ↓gtName_u, ↓dSortSet_u, ↓dSetK_u, ↓dDisp_u, ↓dVar_m, ↓dTru_m, ↓dAnd_m, ↓dOr_m, ↓dNot_m, ↓dChain_m, ↓dIter_m, ↓dRange1_m, ↓dPart_m, ↓gtCons_m, ↓gtNil_m, ↓gtTup_m, ↓sPar_m, ↓oAdd_m, ↓oInt_m, ↓oNeg_m, ↓oOrd_m, ↓oIx_m, ↓oLen_m, ↓oToInt_m, ↓oToTup_m, ↓oToList_m, ↓oGet1_m, ↓oUpper_m, ↓oToStr_m, ↓oPop_m, ↓oAppend_m, ↓oPut_m, ↓oSIndex_m, ↓atI_m, ↓getK_m, ↓oSl, ↓oRev, ↓oIsi_T, ↓oMax2I, ↓oMulI, ↓eqI, ↓eqS, ↓eqL, ↓eqT, ↓neI, ↓neS, ↓neL, ↓neT, vw_non, vw_bl, vw_int, vw_str, vw_tup, vw_lst, vw_dic, vw_raw, vw_obj, truD, keyD, itemsOf, mthTy, lenD, seqD, List.map_cons, List.map_nil, List.cons_append, List.nil_append, List.getElem?_cons_zero, List.getElem?_cons_succ, List.getElem?_nil, List.set_cons_zero, List.set_cons_succ, List.length_cons, List.length_nil, ↓reduceIte, Bool.not_true, Bool.not_false, Bool.false_eq_true, true_and, and_true, List.replicate_zero, List.replicate_succ, List.append_nil, ↓sp1_m, ↓spRow_m, ↓spRis_m, ↓spPl_m, ↓spPg_m, ↓spDraw_m, ↓oIn_strs]
  refine ⟨n, R, ⟨⟨by decide, by decide⟩, by omega⟩, hD, fun r M' r0 r1 hD' => ⟨sz_le (by decide), pick_ok (by simp) (by simp) (by omega) hD' dlP (fun x hx => ?_) q⟩⟩
  simp only [List.mem_cons, List.not_mem_nil, or_false] at hx
  rcases hx with rfl | rfl | rfl | rfl | rfl | rfl | rfl
  all_goals refine ⟨_, rfl, ?_⟩; unfold dlo; omega
theorem spDrw_m {c : Nat} {A : List D → Prop} {P : D → Prop} {M : St3} {as : List D} {Q : KD} : spDrw c A P M (.obj 1 :: as) Q = ∃ (n : Nat) (R : St3), (A as ∧ n + c ≤ dkMax) ∧ Deck n R M ∧ ∀ x M', P x → Deck (n + c) R M' → Q x M' := by
  unfold spDrw
  simp only [List.cons.injEq, true_and, eq_iff_iff]
  exact ⟨fun ⟨_, n, R, e, a, b, c⟩ => by subst e; exact ⟨n, R, ⟨a, b⟩, c⟩, fun ⟨n, R, ⟨a, b⟩, c⟩ => ⟨_, n, R, rfl, a, b, c⟩⟩
theorem dl_law_row {M : St3} {ds : List D} {Q : KD} (h : spDrw 8 (· = []) rwP M ds Q) : td_law_row spPick (spDrw 2 (· = []) wthP) (spDrw 1 (· = []) keyP) (spDrw 2 (· = []) dlP) spDraw (E0 Q) (ds.map some ++ List.replicate 3 none) M := by
  obtain ⟨as, n, R, rfl, rfl, hn, hD, q⟩ := h
  have hn' : n + 8 ≤ 1000000 := hn
  have z : ∀ k, k ≤ 3000 → k ≤ sizeLine := fun k h => sz_le (by omega)
  simp only [td_law_row, ↓sSeq_u, ↓sNext_u, ↓sBreak_u, ↓sCont_u, ↓sDrop_u, ↓sRet_u, ↓sRetN_u, ↓sAsg_u, ↓sPut_u, ↓sFor_u, ↓dC_u, ↓dNil_u, ↓dCons_u, ↓dBlt_u, ↓dOp2_u, ↓dUn_u, ↓dMeth_u, ↓dCall_u, ↓dCallK_u, ↓dNotT_u, ↓dAndT_u, ↓dOrT_u, ↓dIf_u, ↓dTup_u, ↓dLst_u, ↓dLstO_u, ↓dSl_u, ↓dNoPart_u, ↓dRev_u, ↓dYes_u, ↓dDic0_u, ↓dLc_u, ↓dEnum_u, ↓dZip_u, ↓gtName_u, ↓dSortSet_u, ↓dSetK_u, ↓dDisp_u, ↓dVar_m, ↓dTru_m, ↓dAnd_m, ↓dOr_m, ↓dNot_m, ↓dChain_m, ↓dIter_m, ↓dRange1_m, ↓dPart_m, ↓gtCons_m, ↓gtNil_m, ↓gtTup_m, ↓sPar_m, ↓oAdd_m, ↓oInt_m, ↓oNeg_m, ↓oOrd_m, ↓oIx_m, ↓oLen_m, ↓oToInt_m, ↓oToTup_m, ↓oToList_m, ↓oGet1_m, ↓oUpper_m, ↓oToStr_m, ↓oPop_m, ↓oAppend_m, ↓oPut_m, ↓oSIndex_m, ↓atI_m, ↓getK_m, ↓oSl, ↓oRev, ↓oIsi_T, ↓oMax2I, ↓oMulI, ↓eqI, ↓eqS, ↓eqL, ↓eqT, ↓neI, ↓neS, ↓neL, ↓neT, vw_non, vw_bl, vw_int, vw_str, vw_tup, vw_lst, vw_dic, vw_raw, vw_obj, truD, keyD, itemsOf, mthTy, lenD, seqD, List.map_cons, List.map_nil, List.cons_append, List.nil_append, List.getElem?_cons_zero, List.getElem?_cons_succ, List.getElem?_nil, List.set_cons_zero, List.set_cons_succ, List.length_cons, List.length_nil, ↓reduceIte, Bool.not_true, Bool.not_false, Bool.false_eq_true, true_and, and_true, List.replicate_zero, List.replicate_succ, List.append_nil, ↓sp1_m, ↓spRow_m, ↓spRis_m, ↓spPl_m, ↓spPg_m, ↓spDraw_m, ↓oIn_strs, ↓spDrw_m]
  refine ⟨n, R, ⟨⟨by decide, by decide⟩, by omega⟩, hD, fun r M1 r0 r1 hD1 => ⟨n + 1, R, by omega, hD1, fun x M2 hx hD2 => ?_⟩⟩
  obtain ⟨d, rfl, hd⟩ := hx
  by_cases w0 : r = 0
  · simp only [w0, decide_true, ↓sSeq_u, ↓sNext_u, ↓sBreak_u, ↓sCont_u, ↓sDrop_u, ↓sRet_u, ↓sRetN_u, ↓sIf_u, ↓sAsg_u, ↓sPut_u, ↓sFor_u, ↓dC_u, ↓dNil_u, ↓dCons_u, ↓dBlt_u, ↓dOp2_u, ↓dUn_u, ↓dMeth_u, ↓dCall_u, ↓dCallK_u, ↓dNotT_u, ↓dAndT_u, ↓dOrT_u, ↓dIf_u, ↓dTup_u, ↓dLst_u, ↓dLstO_u, ↓dSl_u, ↓dNoPart_u, ↓dRev_u, ↓dYes_u, ↓dDic0_u, ↓dLc_u, ↓dEnum_u, ↓dZip_u, ↓gtName_u, ↓dSortSet_u, ↓dSetK_u, ↓dDisp_u, ↓dVar_m, ↓dTru_m, ↓dAnd_m, ↓dOr_m, ↓dNot_m, ↓dChain_m, ↓dIter_m, ↓dRange1_m, ↓dPart_m, ↓gtCons_m, ↓gtNil_m, ↓gtTup_m, ↓sPar_m, ↓oAdd_m, ↓oInt_m, ↓oNeg_m, ↓oOrd_m, ↓oIx_m, ↓oLen_m, ↓oToInt_m, ↓oToTup_m, ↓oToList_m, ↓oGet1_m, ↓oUpper_m, ↓oToStr_m, ↓oPop_m, ↓oAppend_m, ↓oPut_m, ↓oSIndex_m, ↓atI_m, ↓getK_m, ↓oSl, ↓oRev, ↓oIsi_T, ↓oMax2I, ↓oMulI, ↓eqI, ↓eqS, ↓eqL, ↓eqT, ↓neI, ↓neS, ↓neL, ↓neT, vw_non, vw_bl, vw_int, vw_str, vw_tup, vw_lst, vw_dic, vw_raw, vw_obj, truD, keyD, itemsOf, mthTy, lenD, seqD, List.map_cons, List.map_nil, List.cons_append, List.nil_append, List.getElem?_cons_zero, List.getElem?_cons_succ, List.getElem?_nil, List.set_cons_zero, List.set_cons_succ, List.length_cons, List.length_nil, ↓reduceIte, Bool.not_true, Bool.not_false, Bool.false_eq_true, true_and, and_true, List.replicate_zero, List.replicate_succ, List.append_nil, ↓sp1_m, ↓spRow_m, ↓spRis_m, ↓spPl_m, ↓spPg_m, ↓spDraw_m, ↓oIn_strs, ↓spDrw_m]
    repeat refine And.intro (z _ (by decide)) ?_
    refine pick_ok (P := fun x => ∃ s : Str, x = .str s ∧ (s = "leader" ∨ s = "member")) (by simp) (by simp) (by omega) hD2 ?_ fun x M3 hx hD3 => ?_
    · intro x hx
      simp only [List.mem_cons, List.not_mem_nil, or_false] at hx
      rcases hx with rfl | rfl
      · exact ⟨_, rfl, .inl rfl⟩
      · exact ⟨_, rfl, .inr rfl⟩
    obtain ⟨s, rfl, hs⟩ := hx
    refine pick_ok (P := fun x => ∃ h, x = .tup (h.map .int) ∧ h ∈ hs5) (by simp) (by simp) (by omega) hD3 ?_ fun x M4 hx hD4 => ?_
    · intro x hx
      have : x ∈ hs5.map fun h => D.tup (h.map .int) := hx
      obtain ⟨h, hh, rfl⟩ := List.mem_map.mp this
      exact ⟨h, rfl, hh⟩
    obtain ⟨hs', rfl, hh⟩ := hx
    exact ⟨z _ (by decide), q _ _ ⟨.beg d s hs', rfl, hd, hs, hh⟩ (hD4.mono (by omega))⟩
  by_cases w1 : r = 1
  · simp only [w0, w1, decide_true, decide_false, ↓sSeq_u, ↓sNext_u, ↓sBreak_u, ↓sCont_u, ↓sDrop_u, ↓sRet_u, ↓sRetN_u, ↓sIf_u, ↓sAsg_u, ↓sPut_u, ↓sFor_u, ↓dC_u, ↓dNil_u, ↓dCons_u, ↓dBlt_u, ↓dOp2_u, ↓dUn_u, ↓dMeth_u, ↓dCall_u, ↓dCallK_u, ↓dNotT_u, ↓dAndT_u, ↓dOrT_u, ↓dIf_u, ↓dTup_u, ↓dLst_u, ↓dLstO_u, ↓dSl_u, ↓dNoPart_u, ↓dRev_u, ↓dYes_u, ↓dDic0_u, ↓dLc_u, ↓dEnum_u, ↓dZip_u, ↓gtName_u, ↓dSortSet_u, ↓dSetK_u, ↓dDisp_u, ↓dVar_m, ↓dTru_m, ↓dAnd_m, ↓dOr_m, ↓dNot_m, ↓dChain_m, ↓dIter_m, ↓dRange1_m, ↓dPart_m, ↓gtCons_m, ↓gtNil_m, ↓gtTup_m, ↓sPar_m, ↓oAdd_m, ↓oInt_m, ↓oNeg_m, ↓oOrd_m, ↓oIx_m, ↓oLen_m, ↓oToInt_m, ↓oToTup_m, ↓oToList_m, ↓oGet1_m, ↓oUpper_m, ↓oToStr_m, ↓oPop_m, ↓oAppend_m, ↓oPut_m, ↓oSIndex_m, ↓atI_m, ↓getK_m, ↓oSl, ↓oRev, ↓oIsi_T, ↓oMax2I, ↓oMulI, ↓eqI, ↓eqS, ↓eqL, ↓eqT, ↓neI, ↓neS, ↓neL, ↓neT, vw_non, vw_bl, vw_int, vw_str, vw_tup, vw_lst, vw_dic, vw_raw, vw_obj, truD, keyD, itemsOf, mthTy, lenD, seqD, List.map_cons, List.map_nil, List.cons_append, List.nil_append, List.getElem?_cons_zero, List.getElem?_cons_succ, List.getElem?_nil, List.set_cons_zero, List.set_cons_succ, List.length_cons, List.length_nil, ↓reduceIte, Bool.not_true, Bool.not_false, Bool.false_eq_true, true_and, and_true, List.replicate_zero, List.replicate_succ, List.append_nil, ↓sp1_m, ↓spRow_m, ↓spRis_m, ↓spPl_m, ↓spPg_m, ↓spDraw_m, ↓oIn_strs, ↓spDrw_m]
    refine ⟨n + 3, R, by omega, hD2, fun x M3 hx hD3 => ?_⟩
    obtain ⟨k, rfl, hk⟩ := hx
    exact ⟨z _ (by decide), q _ _ ⟨.rd d k, rfl, hd, hk⟩ (hD3.mono (by omega))⟩
  by_cases w4 : r < 4
  · have e1 : Ord4.lt.iB r 4 = true := by simpa [Ord4.iB] using w4
    simp only [w0, w1, e1, decide_true, decide_false, ↓sSeq_u, ↓sNext_u, ↓sBreak_u, ↓sCont_u, ↓sDrop_u, ↓sRet_u, ↓sRetN_u, ↓sIf_u, ↓sAsg_u, ↓sPut_u, ↓sFor_u, ↓dC_u, ↓dNil_u, ↓dCons_u, ↓dBlt_u, ↓dOp2_u, ↓dUn_u, ↓dMeth_u, ↓dCall_u, ↓dCallK_u, ↓dNotT_u, ↓dAndT_u, ↓dOrT_u, ↓dIf_u, ↓dTup_u, ↓dLst_u, ↓dLstO_u, ↓dSl_u, ↓dNoPart_u, ↓dRev_u, ↓dYes_u, ↓dDic0_u, ↓dLc_u, ↓dEnum_u, ↓dZip_u, ↓gtName_u, ↓dSortSet_u, ↓dSetK_u, ↓dDisp_u, ↓dVar_m, ↓dTru_m, ↓dAnd_m, ↓dOr_m, ↓dNot_m, ↓dChain_m, ↓dIter_m, ↓dRange1_m, ↓dPart_m, ↓gtCons_m, ↓gtNil_m, ↓gtTup_m, ↓sPar_m, ↓oAdd_m, ↓oInt_m, ↓oNeg_m, ↓oOrd_m, ↓oIx_m, ↓oLen_m, ↓oToInt_m, ↓oToTup_m, ↓oToList_m, ↓oGet1_m, ↓oUpper_m, ↓oToStr_m, ↓oPop_m, ↓oAppend_m, ↓oPut_m, ↓oSIndex_m, ↓atI_m, ↓getK_m, ↓oSl, ↓oRev, ↓oIsi_T, ↓oMax2I, ↓oMulI, ↓eqI, ↓eqS, ↓eqL, ↓eqT, ↓neI, ↓neS, ↓neL, ↓neT, vw_non, vw_bl, vw_int, vw_str, vw_tup, vw_lst, vw_dic, vw_raw, vw_obj, truD, keyD, itemsOf, mthTy, lenD, seqD, List.map_cons, List.map_nil, List.cons_append, List.nil_append, List.getElem?_cons_zero, List.getElem?_cons_succ, List.getElem?_nil, List.set_cons_zero, List.set_cons_succ, List.length_cons, List.length_nil, ↓reduceIte, Bool.not_true, Bool.not_false, Bool.false_eq_true, true_and, and_true, List.replicate_zero, List.replicate_succ, List.append_nil, ↓sp1_m, ↓spRow_m, ↓spRis_m, ↓spPl_m, ↓spPg_m, ↓spDraw_m, ↓oIn_strs, ↓spDrw_m]
    refine ⟨n + 3, R, by omega, hD2, fun x M3 hx hD3 => ⟨n + 3 + 1, R, by omega, hD3, fun x2 M4 hx2 hD4 => ⟨n + 3 + 1 + 2, R, by omega, hD4, fun x3 M5 hx3 hD5 => ?_⟩⟩⟩
    obtain ⟨k, rfl, hk⟩ := hx
    obtain ⟨o, rfl, ho⟩ := hx2
    obtain ⟨w, rfl, hw⟩ := hx3
    exact ⟨z _ (by decide), q _ _ ⟨.wr d k o w, rfl, hd, hk, ho, hw⟩ (hD5.mono (by omega))⟩
  have e1 : Ord4.lt.iB r 4 = false := by simpa [Ord4.iB] using w4
  by_cases w5 : r = 4
  · simp only [w0, w1, e1, w5, decide_true, decide_false, ↓sSeq_u, ↓sNext_u, ↓sBreak_u, ↓sCont_u, ↓sDrop_u, ↓sRet_u, ↓sRetN_u, ↓sIf_u, ↓sAsg_u, ↓sPut_u, ↓sFor_u, ↓dC_u, ↓dNil_u, ↓dCons_u, ↓dBlt_u, ↓dOp2_u, ↓dUn_u, ↓dMeth_u, ↓dCall_u, ↓dCallK_u, ↓dNotT_u, ↓dAndT_u, ↓dOrT_u, ↓dIf_u, ↓dTup_u, ↓dLst_u, ↓dLstO_u, ↓dSl_u, ↓dNoPart_u, ↓dRev_u, ↓dYes_u, ↓dDic0_u, ↓dLc_u, ↓dEnum_u, ↓dZip_u, ↓gtName_u, ↓dSortSet_u, ↓dSetK_u, ↓dDisp_u, ↓dVar_m, ↓dTru_m, ↓dAnd_m, ↓dOr_m, ↓dNot_m, ↓dChain_m, ↓dIter_m, ↓dRange1_m, ↓dPart_m, ↓gtCons_m, ↓gtNil_m, ↓gtTup_m, ↓sPar_m, ↓oAdd_m, ↓oInt_m, ↓oNeg_m, ↓oOrd_m, ↓oIx_m, ↓oLen_m, ↓oToInt_m, ↓oToTup_m, ↓oToList_m, ↓oGet1_m, ↓oUpper_m, ↓oToStr_m, ↓oPop_m, ↓oAppend_m, ↓oPut_m, ↓oSIndex_m, ↓atI_m, ↓getK_m, ↓oSl, ↓oRev, ↓oIsi_T, ↓oMax2I, ↓oMulI, ↓eqI, ↓eqS, ↓eqL, ↓eqT, ↓neI, ↓neS, ↓neL, ↓neT, vw_non, vw_bl, vw_int, vw_str, vw_tup, vw_lst, vw_dic, vw_raw, vw_obj, truD, keyD, itemsOf, mthTy, lenD, seqD, List.map_cons, List.map_nil, List.cons_append, List.nil_append, List.getElem?_cons_zero, List.getElem?_cons_succ, List.getElem?_nil, List.set_cons_zero, List.set_cons_succ, List.length_cons, List.length_nil, ↓reduceIte, Bool.not_true, Bool.not_false, Bool.false_eq_true, true_and, and_true, List.replicate_zero, List.replicate_succ, List.append_nil, ↓sp1_m, ↓spRow_m, ↓spRis_m, ↓spPl_m, ↓spPg_m, ↓spDraw_m, ↓oIn_strs, ↓spDrw_m]
    refine ⟨n + 3, R, by omega, hD2, fun x M3 hx hD3 => ⟨n + 3 + 1, R, by omega, hD3, fun x2 M4 hx2 hD4 => ?_⟩⟩
    obtain ⟨k, rfl, hk⟩ := hx
    obtain ⟨w, rfl, hw⟩ := hx2
    exact ⟨z _ (by decide), q _ _ ⟨.un d k w, rfl, hd, hk, hw⟩ (hD4.mono (by omega))⟩
  by_cases w7 : r < 7
  · have e2 : Ord4.lt.iB r 7 = true := by simpa [Ord4.iB] using w7
    simp only [w0, w1, e1, w5, e2, decide_true, decide_false, ↓sSeq_u, ↓sNext_u, ↓sBreak_u, ↓sCont_u, ↓sDrop_u, ↓sRet_u, ↓sRetN_u, ↓sIf_u, ↓sAsg_u, ↓sPut_u, ↓sFor_u, ↓dC_u, ↓dNil_u, ↓dCons_u, ↓dBlt_u, ↓dOp2_u, ↓dUn_u, ↓dMeth_u, ↓dCall_u, ↓dCallK_u, ↓dNotT_u, ↓dAndT_u, ↓dOrT_u, ↓dIf_u, ↓dTup_u, ↓dLst_u, ↓dLstO_u, ↓dSl_u, ↓dNoPart_u, ↓dRev_u, ↓dYes_u, ↓dDic0_u, ↓dLc_u, ↓dEnum_u, ↓dZip_u, ↓gtName_u, ↓dSortSet_u, ↓dSetK_u, ↓dDisp_u, ↓dVar_m, ↓dTru_m, ↓dAnd_m, ↓dOr_m, ↓dNot_m, ↓dChain_m, ↓dIter_m, ↓dRange1_m, ↓dPart_m, ↓gtCons_m, ↓gtNil_m, ↓gtTup_m, ↓sPar_m, ↓oAdd_m, ↓oInt_m, ↓oNeg_m, ↓oOrd_m, ↓oIx_m, ↓oLen_m, ↓oToInt_m, ↓oToTup_m, ↓oToList_m, ↓oGet1_m, ↓oUpper_m, ↓oToStr_m, ↓oPop_m, ↓oAppend_m, ↓oPut_m, ↓oSIndex_m, ↓atI_m, ↓getK_m, ↓oSl, ↓oRev, ↓oIsi_T, ↓oMax2I, ↓oMulI, ↓eqI, ↓eqS, ↓eqL, ↓eqT, ↓neI, ↓neS, ↓neL, ↓neT, vw_non, vw_bl, vw_int, vw_str, vw_tup, vw_lst, vw_dic, vw_raw, vw_obj, truD, keyD, itemsOf, mthTy, lenD, seqD, List.map_cons, List.map_nil, List.cons_append, List.nil_append, List.getElem?_cons_zero, List.getElem?_cons_succ, List.getElem?_nil, List.set_cons_zero, List.set_cons_succ, List.length_cons, List.length_nil, ↓reduceIte, Bool.not_true, Bool.not_false, Bool.false_eq_true, true_and, and_true, List.replicate_zero, List.replicate_succ, List.append_nil, ↓sp1_m, ↓spRow_m, ↓spRis_m, ↓spPl_m, ↓spPg_m, ↓spDraw_m, ↓oIn_strs, ↓spDrw_m]
    refine ⟨z _ (by decide), pick_ok (P := fun x => ∃ s, x = .str s ∧ s ∈ words5) (by simp) (by simp) (by omega) hD2 ?_ fun x M3 hx hD3 => ?_⟩
    · intro x hx
      have : x ∈ words5.map D.str := hx
      obtain ⟨h, hh, rfl⟩ := List.mem_map.mp this
      exact ⟨h, rfl, hh⟩
    obtain ⟨w, rfl, hw⟩ := hx
    exact ⟨z _ (by decide), q _ _ ⟨.mk d w, rfl, hd, hw⟩ (hD3.mono (by omega))⟩
  · have e2 : Ord4.lt.iB r 7 = false := by simpa [Ord4.iB] using w7
    simp only [w0, w1, e1, w5, e2, decide_true, decide_false, ↓sSeq_u, ↓sNext_u, ↓sBreak_u, ↓sCont_u, ↓sDrop_u, ↓sRet_u, ↓sRetN_u, ↓sIf_u, ↓sAsg_u, ↓sPut_u, ↓sFor_u, ↓dC_u, ↓dNil_u, ↓dCons_u, ↓dBlt_u, ↓dOp2_u, ↓dUn_u, ↓dMeth_u, ↓dCall_u, ↓dCallK_u, ↓dNotT_u, ↓dAndT_u, ↓dOrT_u, ↓dIf_u, ↓dTup_u, ↓dLst_u, ↓dLstO_u, ↓dSl_u, ↓dNoPart_u, ↓dRev_u, ↓dYes_u, ↓dDic0_u, ↓dLc_u, ↓dEnum_u, ↓dZip_u, ↓gtName_u, ↓dSortSet_u, ↓dSetK_u, ↓dDisp_u, ↓dVar_m, ↓dTru_m, ↓dAnd_m, ↓dOr_m, ↓dNot_m, ↓dChain_m, ↓dIter_m, ↓dRange1_m, ↓dPart_m, ↓gtCons_m, ↓gtNil_m, ↓gtTup_m, ↓sPar_m, ↓oAdd_m, ↓oInt_m, ↓oNeg_m, ↓oOrd_m, ↓oIx_m, ↓oLen_m, ↓oToInt_m, ↓oToTup_m, ↓oToList_m, ↓oGet1_m, ↓oUpper_m, ↓oToStr_m, ↓oPop_m, ↓oAppend_m, ↓oPut_m, ↓oSIndex_m, ↓atI_m, ↓getK_m, ↓oSl, ↓oRev, ↓oIsi_T, ↓oMax2I, ↓oMulI, ↓eqI, ↓eqS, ↓eqL, ↓eqT, ↓neI, ↓neS, ↓neL, ↓neT, vw_non, vw_bl, vw_int, vw_str, vw_tup, vw_lst, vw_dic, vw_raw, vw_obj, truD, keyD, itemsOf, mthTy, lenD, seqD, List.map_cons, List.map_nil, List.cons_append, List.nil_append, List.getElem?_cons_zero, List.getElem?_cons_succ, List.getElem?_nil, List.set_cons_zero, List.set_cons_succ, List.length_cons, List.length_nil, ↓reduceIte, Bool.not_true, Bool.not_false, Bool.false_eq_true, true_and, and_true, List.replicate_zero, List.replicate_succ, List.append_nil, ↓sp1_m, ↓spRow_m, ↓spRis_m, ↓spPl_m, ↓spPg_m, ↓spDraw_m, ↓oIn_strs, ↓spDrw_m]
    refine ⟨z _ (by decide), pick_ok (P := fun x => ∃ s : Str, x = .str s ∧ (s = "kept" ∨ s = "dropped")) (by simp) (by simp) (by omega) hD2 ?_ fun x M3 hx hD3 => ?_⟩
    · intro x hx
      simp only [List.mem_cons, List.not_mem_nil, or_false] at hx
      rcases hx with rfl | rfl
      · exact ⟨_, rfl, .inl rfl⟩
      · exact ⟨_, rfl, .inr rfl⟩
    obtain ⟨w, rfl, hw⟩ := hx
    exact ⟨z _ (by decide), q _ _ ⟨.en d w, rfl, hd, hw⟩ (hD3.mono (by omega))⟩
/-- rows drawn: at most so many -/
def rwsP (c : Nat) (d : D) : Prop := ∃ rs : List Rw, d = .lst (rs.map Rw.D) ∧ rs.length ≤ c ∧ ∀ r ∈ rs, r.ok
def spRows : DSp := fun M ds Q => ∃ (c : Nat) (n : Nat) (R : St3), ds = [.obj 1, .int (c : Nat)] ∧ c ≤ 100 ∧ n + 1000 ≤ dkMax ∧ Deck n R M ∧ ∀ x M', rwsP c x → Deck (n + 1000) R M' → Q x M'
theorem dl_law_rows {M : St3} {ds : List D} {Q : KD} (h : spRows M ds Q) : td_law_rows spDraw (spDrw 8 (· = []) rwP) (E0 Q) (ds.map some ++ List.replicate 1 none) M := by
  obtain ⟨c, n, R, rfl, hc, hn, hD, q⟩ := h
  have hn' : n + 1000 ≤ 1000000 := hn
  simp only [td_law_rows, ↓sSeq_u, ↓sNext_u, ↓sBreak_u, ↓sCont_u, ↓sDrop_u, ↓sRet_u, ↓sRetN_u, ↓sIf_u, ↓sAsg_u, ↓sPut_u, ↓sFor_u, ↓dC_u, ↓dNil_u, ↓dCons_u, ↓dBlt_u, ↓dOp2_u, ↓dUn_u, ↓dMeth_u, ↓dCall_u, ↓dCallK_u, ↓dNotT_u, ↓dAndT_u, ↓dOrT_u, ↓dIf_u, ↓dTup_u, ↓dLst_u, ↓dLstO_u, ↓dSl_u, ↓dNoPart_u, ↓dRev_u, ↓dYes_u, ↓dDic0_u, ↓dLc_u, ↓dEnum_u, ↓dZip_u, ↓gtName_u, ↓dSortSet_u, ↓dSetK_u, ↓dDisp_u, ↓dVar_m, ↓dTru_m, ↓dAnd_m, ↓dOr_m, ↓dNot_m, ↓dChain_m, ↓dIter_m, ↓dRange1_m, ↓dPart_m, ↓gtCons_m, ↓gtNil_m, ↓gtTup_m, ↓sPar_m, ↓oAdd_m, ↓oInt_m, ↓oNeg_m, ↓oOrd_m, ↓oIx_m, ↓oLen_m, ↓oToInt_m, ↓oToTup_m, ↓oToList_m, ↓oGet1_m, ↓oUpper_m, ↓oToStr_m, ↓oPop_m, ↓oAppend_m, ↓oPut_m, ↓oSIndex_m, ↓atI_m, ↓getK_m, ↓oSl, ↓oRev, ↓oIsi_T, ↓oMax2I, ↓oMulI, ↓eqI, ↓eqS, ↓eqL, ↓eqT, ↓neI, ↓neS, ↓neL, ↓neT, vw_non, vw_bl, vw_int, vw_str, vw_tup, vw_lst, vw_dic, vw_raw, vw_obj, truD, keyD, itemsOf, mthTy, lenD, seqD, List.map_cons, List.map_nil, List.cons_append, List.nil_append, List.getElem?_cons_zero, List.getElem?_cons_succ, List.getElem?_nil, List.set_cons_zero, List.set_cons_succ, List.length_cons, List.length_nil, ↓reduceIte, Bool.not_true, Bool.not_false, Bool.false_eq_true, true_and, and_true, List.replicate_zero, List.replicate_succ, List.append_nil, ↓sp1_m, ↓spRow_m, ↓spRis_m, ↓spPl_m, ↓spPg_m, ↓spDraw_m, ↓oIn_strs, ↓spDrw_m]
  refine ⟨n, R, ⟨⟨by omega, by omega⟩, by omega⟩, hD, fun t M1 t0 t1 hD1 => ⟨⟨by omega, by omega⟩, ?_⟩⟩
  have hl : (seqI 0 t.toNat).length = t.toNat := by simp [seqI]
  refine lcGo_inv t.toNat (fun acc M => ∃ rs : List Rw, acc = rs.map Rw.D ∧ (∀ r ∈ rs, r.ok) ∧ Deck (n + 1 + 8 * rs.length) R M) (fun _ _ _ => trivial) (by rw [hl]; simp) (sz_le (by omega)) (fun x hx acc M hlt hI Kn Ks k => ?_) (fun acc M hI he => ?_) ⟨[], rfl, (fun r h => by simp at h), hD1⟩
  · obtain ⟨rs, rfl, ho, hD2⟩ := hI
    rw [List.length_map] at hlt
    simp only [↓sSeq_u, ↓sNext_u, ↓sBreak_u, ↓sCont_u, ↓sDrop_u, ↓sRet_u, ↓sRetN_u, ↓sIf_u, ↓sAsg_u, ↓sPut_u, ↓sFor_u, ↓dC_u, ↓dNil_u, ↓dCons_u, ↓dBlt_u, ↓dOp2_u, ↓dUn_u, ↓dMeth_u, ↓dCall_u, ↓dCallK_u, ↓dNotT_u, ↓dAndT_u, ↓dOrT_u, ↓dIf_u, ↓dTup_u, ↓dLst_u, ↓dLstO_u, ↓dSl_u, ↓dNoPart_u, ↓dRev_u, ↓dYes_u, ↓dDic0_u, ↓dLc_u, ↓dEnum_u, ↓dZip_u, ↓gtName_u, ↓dSortSet_u, ↓dSetK_u, ↓dDisp_u, ↓dVar_m, ↓dTru_m, ↓dAnd_m, ↓dOr_m, ↓dNot_m, ↓dChain_m, ↓dIter_m, ↓dRange1_m, ↓dPart_m, ↓gtCons_m, ↓gtNil_m, ↓gtTup_m, ↓sPar_m, ↓oAdd_m, ↓oInt_m, ↓oNeg_m, ↓oOrd_m, ↓oIx_m, ↓oLen_m, ↓oToInt_m, ↓oToTup_m, ↓oToList_m, ↓oGet1_m, ↓oUpper_m, ↓oToStr_m, ↓oPop_m, ↓oAppend_m, ↓oPut_m, ↓oSIndex_m, ↓atI_m, ↓getK_m, ↓oSl, ↓oRev, ↓oIsi_T, ↓oMax2I, ↓oMulI, ↓eqI, ↓eqS, ↓eqL, ↓eqT, ↓neI, ↓neS, ↓neL, ↓neT, vw_non, vw_bl, vw_int, vw_str, vw_tup, vw_lst, vw_dic, vw_raw, vw_obj, truD, keyD, itemsOf, mthTy, lenD, seqD, List.map_cons, List.map_nil, List.cons_append, List.nil_append, List.getElem?_cons_zero, List.getElem?_cons_succ, List.getElem?_nil, List.set_cons_zero, List.set_cons_succ, List.length_cons, List.length_nil, ↓reduceIte, Bool.not_true, Bool.not_false, Bool.false_eq_true, true_and, and_true, List.replicate_zero, List.replicate_succ, List.append_nil, ↓sp1_m, ↓spRow_m, ↓spRis_m, ↓spPl_m, ↓spPg_m, ↓spDraw_m, ↓oIn_strs, ↓spDrw_m, wipe3]
    refine ⟨n + 1 + 8 * rs.length, R, by omega, hD2, fun x M3 hx hD3 => ?_⟩
    obtain ⟨r, rfl, hr⟩ := hx
    refine k _ _ ⟨rs ++ [r], by simp, fun r' h' => ?_, hD3.mono (by simp; omega)⟩
    rcases List.mem_append.mp h' with h' | h'
    · exact ho r' h'
    · simp at h'; subst h'; exact hr
  · obtain ⟨rs, rfl, ho, hD2⟩ := hI
    rw [List.length_map] at he
    exact q _ _ ⟨rs, rfl, by omega, ho⟩ (hD2.mono (by omega))
end L3.K55
namespace L3.K55
open PySem PySem.Spec PyProof.Rows L2
/-- one of some words, as yes -/
def spOne : DSp := fun M ds Q => ∃ (x : Str) (xs : List Str), ds = [.str x, .tup (xs.map .str)] ∧ x ∈ xs ∧ Q (.bl true) M
theorem dl_is_one_of {M : St3} {ds : List D} {Q : KD} (h : spOne M ds Q) : td_is_one_of (E0 Q) (ds.map some ++ List.replicate 0 none) M := by
  obtain ⟨x, xs, rfl, hx, q⟩ := h
  have e1 : isaD (.str x) "str" = true := rfl
  have e2 : (xs.any fun y => decide (y = x)) = true := List.any_eq_true.mpr ⟨x, hx, by simp⟩
  simp only [td_is_one_of, ↓sSeq_u, ↓sNext_u, ↓sBreak_u, ↓sCont_u, ↓sDrop_u, ↓sRet_u, ↓sRetN_u, ↓sIf_u, ↓sAsg_u, ↓sPut_u, ↓sFor_u, ↓dC_u, ↓dNil_u, ↓dCons_u, ↓dBlt_u, ↓dOp2_u, ↓dUn_u, ↓dMeth_u, ↓dCall_u, ↓dCallK_u, ↓dNotT_u, ↓dAndT_u, ↓dOrT_u, ↓dIf_u, ↓dTup_u, ↓dLst_u, ↓dLstO_u, ↓dSl_u, ↓dNoPart_u, ↓dRev_u, ↓dYes_u, ↓dDic0_u, ↓dLc_u, ↓dEnum_u, ↓dZip_u, ↓gtName_u, ↓dSortSet_u, ↓dSetK_u, ↓dDisp_u, ↓dVar_m, ↓dTru_m, ↓dAnd_m, ↓dOr_m, ↓dNot_m, ↓dChain_m, ↓dIter_m, ↓dRange1_m, ↓dPart_m, ↓gtCons_m, ↓gtNil_m, ↓gtTup_m, ↓sPar_m, ↓oAdd_m, ↓oInt_m, ↓oNeg_m, ↓oOrd_m, ↓oIx_m, ↓oLen_m, ↓oToInt_m, ↓oToTup_m, ↓oToList_m, ↓oGet1_m, ↓oUpper_m, ↓oToStr_m, ↓oPop_m, ↓oAppend_m, ↓oPut_m, ↓oSIndex_m, ↓atI_m, ↓getK_m, ↓oSl, ↓oRev, ↓oIsi_T, ↓oMax2I, ↓oMulI, ↓eqI, ↓eqS, ↓eqL, ↓eqT, ↓neI, ↓neS, ↓neL, ↓neT, vw_non, vw_bl, vw_int, vw_str, vw_tup, vw_lst, vw_dic, vw_raw, vw_obj, truD, keyD, itemsOf, mthTy, lenD, seqD, List.map_cons, List.map_nil, List.cons_append, List.nil_append, List.getElem?_cons_zero, List.getElem?_cons_succ, List.getElem?_nil, List.set_cons_zero, List.set_cons_succ, List.length_cons, List.length_nil, ↓reduceIte, Bool.not_true, Bool.not_false, Bool.false_eq_true, true_and, and_true, List.replicate_zero, List.replicate_succ, List.append_nil, ↓sp1_m, ↓spRow_m, ↓spRis_m, ↓spPl_m, ↓spPg_m, ↓spDraw_m, ↓spDrw_m, kt_s, e1]
  refine ⟨by simp [tyD], ?_⟩
  rw [oIn_strs, e2]
  exact q
theorem one3 {M : St3} {x : Str} {xs : List Str} {ds : List D} {Q : KD} (hd : ds = xs.map .str) (hx : x ∈ xs) (q : Q (.bl true) M) : spOne M [.str x, .tup ds] Q := ⟨x, xs, by rw [hd], hx, q⟩
def yes (C : D → Prop) : DSp := sp1 C fun _ => .bl true
theorem yes_m {C : D → Prop} {M : St3} {d : D} {Q : KD} : yes C M [d] Q = (C d ∧ Q (.bl true) M) := sp1_m
theorem oD_raw (o : Option Int) : notRaw (oD o) = true := by cases o <;> rfl
theorem dl_is_worth {M : St3} {ds : List D} {Q : KD} (h : yes (fun d => ∃ o, d = oD o) M ds Q) : td_is_worth (sp1 plP fun d => .bl (isI d)) (E0 Q) (ds.map some ++ List.replicate 0 none) M := by
  obtain ⟨d, rfl, ⟨o, rfl⟩, q⟩ := h
  simp only [td_is_worth, ↓sSeq_u, ↓sNext_u, ↓sBreak_u, ↓sCont_u, ↓sDrop_u, ↓sRet_u, ↓sRetN_u, ↓sIf_u, ↓sAsg_u, ↓sPut_u, ↓sFor_u, ↓dC_u, ↓dNil_u, ↓dCons_u, ↓dBlt_u, ↓dOp2_u, ↓dUn_u, ↓dMeth_u, ↓dCall_u, ↓dCallK_u, ↓dNotT_u, ↓dAndT_u, ↓dOrT_u, ↓dIf_u, ↓dTup_u, ↓dLst_u, ↓dLstO_u, ↓dSl_u, ↓dNoPart_u, ↓dRev_u, ↓dYes_u, ↓dDic0_u, ↓dLc_u, ↓dEnum_u, ↓dZip_u, ↓gtName_u, ↓dSortSet_u, ↓dSetK_u, ↓dDisp_u, ↓dVar_m, ↓dTru_m, ↓dAnd_m, ↓dOr_m, ↓dNot_m, ↓dChain_m, ↓dIter_m, ↓dRange1_m, ↓dPart_m, ↓gtCons_m, ↓gtNil_m, ↓gtTup_m, ↓sPar_m, ↓oAdd_m, ↓oInt_m, ↓oNeg_m, ↓oOrd_m, ↓oIx_m, ↓oLen_m, ↓oToInt_m, ↓oToTup_m, ↓oToList_m, ↓oGet1_m, ↓oUpper_m, ↓oToStr_m, ↓oPop_m, ↓oAppend_m, ↓oPut_m, ↓oSIndex_m, ↓atI_m, ↓getK_m, ↓oSl, ↓oRev, ↓oIsi_T, ↓oMax2I, ↓oMulI, ↓eqI, ↓eqS, ↓eqL, ↓eqT, ↓neI, ↓neS, ↓neL, ↓neT, vw_non, vw_bl, vw_int, vw_str, vw_tup, vw_lst, vw_dic, vw_raw, vw_obj, truD, keyD, itemsOf, mthTy, lenD, seqD, List.map_cons, List.map_nil, List.cons_append, List.nil_append, List.getElem?_cons_zero, List.getElem?_cons_succ, List.getElem?_nil, List.set_cons_zero, List.set_cons_succ, List.length_cons, List.length_nil, ↓reduceIte, Bool.not_true, Bool.not_false, Bool.false_eq_true, true_and, and_true, List.replicate_zero, List.replicate_succ, List.append_nil, ↓sp1_m, ↓spRow_m, ↓spRis_m, ↓spPl_m, ↓spPg_m, ↓spDraw_m, ↓spDrw_m, ↓yes_m]
  rw [oIsN_m (oD_raw o)]
  cases o with
  | none => simp only [oD, isNonD, ↓sSeq_u, ↓sNext_u, ↓sBreak_u, ↓sCont_u, ↓sDrop_u, ↓sRet_u, ↓sRetN_u, ↓sIf_u, ↓sAsg_u, ↓sPut_u, ↓sFor_u, ↓dC_u, ↓dNil_u, ↓dCons_u, ↓dBlt_u, ↓dOp2_u, ↓dUn_u, ↓dMeth_u, ↓dCall_u, ↓dCallK_u, ↓dNotT_u, ↓dAndT_u, ↓dOrT_u, ↓dIf_u, ↓dTup_u, ↓dLst_u, ↓dLstO_u, ↓dSl_u, ↓dNoPart_u, ↓dRev_u, ↓dYes_u, ↓dDic0_u, ↓dLc_u, ↓dEnum_u, ↓dZip_u, ↓gtName_u, ↓dSortSet_u, ↓dSetK_u, ↓dDisp_u, ↓dVar_m, ↓dTru_m, ↓dAnd_m, ↓dOr_m, ↓dNot_m, ↓dChain_m, ↓dIter_m, ↓dRange1_m, ↓dPart_m, ↓gtCons_m, ↓gtNil_m, ↓gtTup_m, ↓sPar_m, ↓oAdd_m, ↓oInt_m, ↓oNeg_m, ↓oOrd_m, ↓oIx_m, ↓oLen_m, ↓oToInt_m, ↓oToTup_m, ↓oToList_m, ↓oGet1_m, ↓oUpper_m, ↓oToStr_m, ↓oPop_m, ↓oAppend_m, ↓oPut_m, ↓oSIndex_m, ↓atI_m, ↓getK_m, ↓oSl, ↓oRev, ↓oIsi_T, ↓oMax2I, ↓oMulI, ↓eqI, ↓eqS, ↓eqL, ↓eqT, ↓neI, ↓neS, ↓neL, ↓neT, vw_non, vw_bl, vw_int, vw_str, vw_tup, vw_lst, vw_dic, vw_raw, vw_obj, truD, keyD, itemsOf, mthTy, lenD, seqD, List.map_cons, List.map_nil, List.cons_append, List.nil_append, List.getElem?_cons_zero, List.getElem?_cons_succ, List.getElem?_nil, List.set_cons_zero, List.set_cons_succ, List.length_cons, List.length_nil, ↓reduceIte, Bool.not_true, Bool.not_false, Bool.false_eq_true, true_and, and_true, List.replicate_zero, List.replicate_succ, List.append_nil, ↓sp1_m, ↓spRow_m, ↓spRis_m, ↓spPl_m, ↓spPg_m, ↓spDraw_m, ↓spDrw_m, ↓yes_m]; exact q
  | some v => simp only [oD, isNonD, ↓sSeq_u, ↓sNext_u, ↓sBreak_u, ↓sCont_u, ↓sDrop_u, ↓sRet_u, ↓sRetN_u, ↓sIf_u, ↓sAsg_u, ↓sPut_u, ↓sFor_u, ↓dC_u, ↓dNil_u, ↓dCons_u, ↓dBlt_u, ↓dOp2_u, ↓dUn_u, ↓dMeth_u, ↓dCall_u, ↓dCallK_u, ↓dNotT_u, ↓dAndT_u, ↓dOrT_u, ↓dIf_u, ↓dTup_u, ↓dLst_u, ↓dLstO_u, ↓dSl_u, ↓dNoPart_u, ↓dRev_u, ↓dYes_u, ↓dDic0_u, ↓dLc_u, ↓dEnum_u, ↓dZip_u, ↓gtName_u, ↓dSortSet_u, ↓dSetK_u, ↓dDisp_u, ↓dVar_m, ↓dTru_m, ↓dAnd_m, ↓dOr_m, ↓dNot_m, ↓dChain_m, ↓dIter_m, ↓dRange1_m, ↓dPart_m, ↓gtCons_m, ↓gtNil_m, ↓gtTup_m, ↓sPar_m, ↓oAdd_m, ↓oInt_m, ↓oNeg_m, ↓oOrd_m, ↓oIx_m, ↓oLen_m, ↓oToInt_m, ↓oToTup_m, ↓oToList_m, ↓oGet1_m, ↓oUpper_m, ↓oToStr_m, ↓oPop_m, ↓oAppend_m, ↓oPut_m, ↓oSIndex_m, ↓atI_m, ↓getK_m, ↓oSl, ↓oRev, ↓oIsi_T, ↓oMax2I, ↓oMulI, ↓eqI, ↓eqS, ↓eqL, ↓eqT, ↓neI, ↓neS, ↓neL, ↓neT, vw_non, vw_bl, vw_int, vw_str, vw_tup, vw_lst, vw_dic, vw_raw, vw_obj, truD, keyD, itemsOf, mthTy, lenD, seqD, List.map_cons, List.map_nil, List.cons_append, List.nil_append, List.getElem?_cons_zero, List.getElem?_cons_succ, List.getElem?_nil, List.set_cons_zero, List.set_cons_succ, List.length_cons, List.length_nil, ↓reduceIte, Bool.not_true, Bool.not_false, Bool.false_eq_true, true_and, and_true, List.replicate_zero, List.replicate_succ, List.append_nil, ↓sp1_m, ↓spRow_m, ↓spRis_m, ↓spPl_m, ↓spPg_m, ↓spDraw_m, ↓spDrw_m, ↓yes_m]; exact ⟨rfl, q⟩
def hsP (d : D) : Prop := ∃ hs ∈ hs5, d = .tup (hs.map .int)
theorem keysOf_ints : ∀ ns : List Int, keysOf (ns.map .int) = some (ns.map Sum.inl)
  | [] => rfl
  | n :: r => by simp only [List.map_cons, keysOf, keyD, keysOf_ints r]
theorem dl_are_houses_of_deal {M : St3} {ds : List D} {Q : KD} (h : yes hsP M ds Q) : td_are_houses_of_deal spBetween (E0 Q) (ds.map some ++ List.replicate 1 none) M := by
  obtain ⟨d, rfl, ⟨hs, hh, rfl⟩, q⟩ := h
  have all : hs5.all (fun hs => decide (2 ≤ hs.length) && (decide (hs.length ≤ 4) && (hs.all (fun i => decide (0 ≤ i) && decide (i ≤ 3)) && decide ((dedupK (hs.map Sum.inl)).length = hs.length)))) = true := by decide
  have a1 := List.all_eq_true.mp all hs hh
  simp only [Bool.and_eq_true, decide_eq_true_eq] at a1
  obtain ⟨l2, l4, al, du⟩ := a1
  have al' := List.all_eq_true.mp al
  have e1 : isaD (.tup (hs.map .int)) "tuple" = true := rfl
  have h2 : (2 : Int) ≤ hs.length := by omega
  have h4 : (hs.length : Int) ≤ 4 := by omega
  simp only [td_are_houses_of_deal, dLenSet, Ord4.iB, ↓sSeq_u, ↓sNext_u, ↓sBreak_u, ↓sCont_u, ↓sDrop_u, ↓sRet_u, ↓sRetN_u, ↓sIf_u, ↓sAsg_u, ↓sPut_u, ↓sFor_u, ↓dC_u, ↓dNil_u, ↓dCons_u, ↓dBlt_u, ↓dOp2_u, ↓dUn_u, ↓dMeth_u, ↓dCall_u, ↓dCallK_u, ↓dNotT_u, ↓dAndT_u, ↓dOrT_u, ↓dIf_u, ↓dTup_u, ↓dLst_u, ↓dLstO_u, ↓dSl_u, ↓dNoPart_u, ↓dRev_u, ↓dYes_u, ↓dDic0_u, ↓dLc_u, ↓dEnum_u, ↓dZip_u, ↓gtName_u, ↓dSortSet_u, ↓dSetK_u, ↓dDisp_u, ↓dVar_m, ↓dTru_m, ↓dAnd_m, ↓dOr_m, ↓dNot_m, ↓dChain_m, ↓dIter_m, ↓dRange1_m, ↓dPart_m, ↓gtCons_m, ↓gtNil_m, ↓gtTup_m, ↓sPar_m, ↓oAdd_m, ↓oInt_m, ↓oNeg_m, ↓oOrd_m, ↓oIx_m, ↓oLen_m, ↓oToInt_m, ↓oToTup_m, ↓oToList_m, ↓oGet1_m, ↓oUpper_m, ↓oToStr_m, ↓oPop_m, ↓oAppend_m, ↓oPut_m, ↓oSIndex_m, ↓atI_m, ↓getK_m, ↓oSl, ↓oRev, ↓oIsi_T, ↓oMax2I, ↓oMulI, ↓eqI, ↓eqS, ↓eqL, ↓eqT, ↓neI, ↓neS, ↓neL, ↓neT, vw_non, vw_bl, vw_int, vw_str, vw_tup, vw_lst, vw_dic, vw_raw, vw_obj, truD, keyD, itemsOf, mthTy, lenD, seqD, List.map_cons, List.map_nil, List.cons_append, List.nil_append, List.getElem?_cons_zero, List.getElem?_cons_succ, List.getElem?_nil, List.set_cons_zero, List.set_cons_succ, List.length_cons, List.length_nil, ↓reduceIte, Bool.not_true, Bool.not_false, Bool.false_eq_true, true_and, and_true, List.replicate_zero, List.replicate_succ, List.append_nil, ↓sp1_m, ↓spRow_m, ↓spRis_m, ↓spPl_m, ↓spPg_m, ↓spDraw_m, ↓spDrw_m, ↓yes_m, ↓spBetween_m, kt_t, e1, List.length_map, h2, h4, decide_true]
  refine ⟨by simp [tyD], ?_⟩
  refine lcGo_pure (fun _ => true) (fun d => .bl (isB 0 3 d)) trivial (by simp only [List.length_map, List.length_nil]; exact sz_le (by omega)) (fun y hy Kn Ks k1 k2 => ?_) ?_
  · obtain ⟨i, hi, rfl⟩ := List.mem_map.mp hy
    simp only [↓sSeq_u, ↓sNext_u, ↓sBreak_u, ↓sCont_u, ↓sDrop_u, ↓sRet_u, ↓sRetN_u, ↓sIf_u, ↓sAsg_u, ↓sPut_u, ↓sFor_u, ↓dC_u, ↓dNil_u, ↓dCons_u, ↓dBlt_u, ↓dOp2_u, ↓dUn_u, ↓dMeth_u, ↓dCall_u, ↓dCallK_u, ↓dNotT_u, ↓dAndT_u, ↓dOrT_u, ↓dIf_u, ↓dTup_u, ↓dLst_u, ↓dLstO_u, ↓dSl_u, ↓dNoPart_u, ↓dRev_u, ↓dYes_u, ↓dDic0_u, ↓dLc_u, ↓dEnum_u, ↓dZip_u, ↓gtName_u, ↓dSortSet_u, ↓dSetK_u, ↓dDisp_u, ↓dVar_m, ↓dTru_m, ↓dAnd_m, ↓dOr_m, ↓dNot_m, ↓dChain_m, ↓dIter_m, ↓dRange1_m, ↓dPart_m, ↓gtCons_m, ↓gtNil_m, ↓gtTup_m, ↓sPar_m, ↓oAdd_m, ↓oInt_m, ↓oNeg_m, ↓oOrd_m, ↓oIx_m, ↓oLen_m, ↓oToInt_m, ↓oToTup_m, ↓oToList_m, ↓oGet1_m, ↓oUpper_m, ↓oToStr_m, ↓oPop_m, ↓oAppend_m, ↓oPut_m, ↓oSIndex_m, ↓atI_m, ↓getK_m, ↓oSl, ↓oRev, ↓oIsi_T, ↓oMax2I, ↓oMulI, ↓eqI, ↓eqS, ↓eqL, ↓eqT, ↓neI, ↓neS, ↓neL, ↓neT, vw_non, vw_bl, vw_int, vw_str, vw_tup, vw_lst, vw_dic, vw_raw, vw_obj, truD, keyD, itemsOf, mthTy, lenD, seqD, List.map_cons, List.map_nil, List.cons_append, List.nil_append, List.getElem?_cons_zero, List.getElem?_cons_succ, List.getElem?_nil, List.set_cons_zero, List.set_cons_succ, List.length_cons, List.length_nil, ↓reduceIte, Bool.not_true, Bool.not_false, Bool.false_eq_true, true_and, and_true, List.replicate_zero, List.replicate_succ, List.append_nil, ↓sp1_m, ↓spRow_m, ↓spRis_m, ↓spPl_m, ↓spPg_m, ↓spDraw_m, ↓spDrw_m, ↓yes_m, ↓spBetween_m, wipe3]
    exact ⟨rfl, k1 rfl⟩
  · rw [filter_T]
    simp only [↓sSeq_u, ↓sNext_u, ↓sBreak_u, ↓sCont_u, ↓sDrop_u, ↓sRet_u, ↓sRetN_u, ↓sIf_u, ↓sAsg_u, ↓sPut_u, ↓sFor_u, ↓dC_u, ↓dNil_u, ↓dCons_u, ↓dBlt_u, ↓dOp2_u, ↓dUn_u, ↓dMeth_u, ↓dCall_u, ↓dCallK_u, ↓dNotT_u, ↓dAndT_u, ↓dOrT_u, ↓dIf_u, ↓dTup_u, ↓dLst_u, ↓dLstO_u, ↓dSl_u, ↓dNoPart_u, ↓dRev_u, ↓dYes_u, ↓dDic0_u, ↓dLc_u, ↓dEnum_u, ↓dZip_u, ↓gtName_u, ↓dSortSet_u, ↓dSetK_u, ↓dDisp_u, ↓dVar_m, ↓dTru_m, ↓dAnd_m, ↓dOr_m, ↓dNot_m, ↓dChain_m, ↓dIter_m, ↓dRange1_m, ↓dPart_m, ↓gtCons_m, ↓gtNil_m, ↓gtTup_m, ↓sPar_m, ↓oAdd_m, ↓oInt_m, ↓oNeg_m, ↓oOrd_m, ↓oIx_m, ↓oLen_m, ↓oToInt_m, ↓oToTup_m, ↓oToList_m, ↓oGet1_m, ↓oUpper_m, ↓oToStr_m, ↓oPop_m, ↓oAppend_m, ↓oPut_m, ↓oSIndex_m, ↓atI_m, ↓getK_m, ↓oSl, ↓oRev, ↓oIsi_T, ↓oMax2I, ↓oMulI, ↓eqI, ↓eqS, ↓eqL, ↓eqT, ↓neI, ↓neS, ↓neL, ↓neT, vw_non, vw_bl, vw_int, vw_str, vw_tup, vw_lst, vw_dic, vw_raw, vw_obj, truD, keyD, itemsOf, mthTy, lenD, seqD, List.map_cons, List.map_nil, List.cons_append, List.nil_append, List.getElem?_cons_zero, List.getElem?_cons_succ, List.getElem?_nil, List.set_cons_zero, List.set_cons_succ, List.length_cons, List.length_nil, ↓reduceIte, Bool.not_true, Bool.not_false, Bool.false_eq_true, true_and, and_true, List.replicate_zero, List.replicate_succ, List.append_nil, ↓sp1_m, ↓spRow_m, ↓spRis_m, ↓spPl_m, ↓spPg_m, ↓spDraw_m, ↓spDrw_m, ↓yes_m, ↓spBetween_m, ↓reduceIte]
    refine bls (f := isB 0 3) (fun _ _ => rfl) ?_
    have e2 : (hs.map D.int).all (isB 0 3) = true := by
      rw [List.all_map]
      exact List.all_eq_true.mpr fun i hi => al' i hi
    simp only [e2, ↓sSeq_u, ↓sNext_u, ↓sBreak_u, ↓sCont_u, ↓sDrop_u, ↓sRet_u, ↓sRetN_u, ↓sIf_u, ↓sAsg_u, ↓sPut_u, ↓sFor_u, ↓dC_u, ↓dNil_u, ↓dCons_u, ↓dBlt_u, ↓dOp2_u, ↓dUn_u, ↓dMeth_u, ↓dCall_u, ↓dCallK_u, ↓dNotT_u, ↓dAndT_u, ↓dOrT_u, ↓dIf_u, ↓dTup_u, ↓dLst_u, ↓dLstO_u, ↓dSl_u, ↓dNoPart_u, ↓dRev_u, ↓dYes_u, ↓dDic0_u, ↓dLc_u, ↓dEnum_u, ↓dZip_u, ↓gtName_u, ↓dSortSet_u, ↓dSetK_u, ↓dDisp_u, ↓dVar_m, ↓dTru_m, ↓dAnd_m, ↓dOr_m, ↓dNot_m, ↓dChain_m, ↓dIter_m, ↓dRange1_m, ↓dPart_m, ↓gtCons_m, ↓gtNil_m, ↓gtTup_m, ↓sPar_m, ↓oAdd_m, ↓oInt_m, ↓oNeg_m, ↓oOrd_m, ↓oIx_m, ↓oLen_m, ↓oToInt_m, ↓oToTup_m, ↓oToList_m, ↓oGet1_m, ↓oUpper_m, ↓oToStr_m, ↓oPop_m, ↓oAppend_m, ↓oPut_m, ↓oSIndex_m, ↓atI_m, ↓getK_m, ↓oSl, ↓oRev, ↓oIsi_T, ↓oMax2I, ↓oMulI, ↓eqI, ↓eqS, ↓eqL, ↓eqT, ↓neI, ↓neS, ↓neL, ↓neT, vw_non, vw_bl, vw_int, vw_str, vw_tup, vw_lst, vw_dic, vw_raw, vw_obj, truD, keyD, itemsOf, mthTy, lenD, seqD, List.map_cons, List.map_nil, List.cons_append, List.nil_append, List.getElem?_cons_zero, List.getElem?_cons_succ, List.getElem?_nil, List.set_cons_zero, List.set_cons_succ, List.length_cons, List.length_nil, ↓reduceIte, Bool.not_true, Bool.not_false, Bool.false_eq_true, true_and, and_true, List.replicate_zero, List.replicate_succ, List.append_nil, ↓sp1_m, ↓spRow_m, ↓spRis_m, ↓spPl_m, ↓spPg_m, ↓spDraw_m, ↓spDrw_m, ↓yes_m, ↓spBetween_m]
    refine ⟨_, _, rfl, keysOf_ints hs, by simp; omega, ?_⟩
    simp only [du, List.length_map, decide_true, ↓sSeq_u, ↓sNext_u, ↓sBreak_u, ↓sCont_u, ↓sDrop_u, ↓sRet_u, ↓sRetN_u, ↓sIf_u, ↓sAsg_u, ↓sPut_u, ↓sFor_u, ↓dC_u, ↓dNil_u, ↓dCons_u, ↓dBlt_u, ↓dOp2_u, ↓dUn_u, ↓dMeth_u, ↓dCall_u, ↓dCallK_u, ↓dNotT_u, ↓dAndT_u, ↓dOrT_u, ↓dIf_u, ↓dTup_u, ↓dLst_u, ↓dLstO_u, ↓dSl_u, ↓dNoPart_u, ↓dRev_u, ↓dYes_u, ↓dDic0_u, ↓dLc_u, ↓dEnum_u, ↓dZip_u, ↓gtName_u, ↓dSortSet_u, ↓dSetK_u, ↓dDisp_u, ↓dVar_m, ↓dTru_m, ↓dAnd_m, ↓dOr_m, ↓dNot_m, ↓dChain_m, ↓dIter_m, ↓dRange1_m, ↓dPart_m, ↓gtCons_m, ↓gtNil_m, ↓gtTup_m, ↓sPar_m, ↓oAdd_m, ↓oInt_m, ↓oNeg_m, ↓oOrd_m, ↓oIx_m, ↓oLen_m, ↓oToInt_m, ↓oToTup_m, ↓oToList_m, ↓oGet1_m, ↓oUpper_m, ↓oToStr_m, ↓oPop_m, ↓oAppend_m, ↓oPut_m, ↓oSIndex_m, ↓atI_m, ↓getK_m, ↓oSl, ↓oRev, ↓oIsi_T, ↓oMax2I, ↓oMulI, ↓eqI, ↓eqS, ↓eqL, ↓eqT, ↓neI, ↓neS, ↓neL, ↓neT, vw_non, vw_bl, vw_int, vw_str, vw_tup, vw_lst, vw_dic, vw_raw, vw_obj, truD, keyD, itemsOf, mthTy, lenD, seqD, List.map_cons, List.map_nil, List.cons_append, List.nil_append, List.getElem?_cons_zero, List.getElem?_cons_succ, List.getElem?_nil, List.set_cons_zero, List.set_cons_succ, List.length_cons, List.length_nil, ↓reduceIte, Bool.not_true, Bool.not_false, Bool.false_eq_true, true_and, and_true, List.replicate_zero, List.replicate_succ, List.append_nil, ↓sp1_m, ↓spRow_m, ↓spRis_m, ↓spPl_m, ↓spPg_m, ↓spDraw_m, ↓spDrw_m, ↓yes_m, ↓spBetween_m]
    exact q
theorem at_neg1 {α : Type} (xs : List α) (x : α) : atI (xs ++ [x]) (-1) = some x := by
  unfold atI ixN
  rw [if_neg (by decide), if_pos (by simp; omega)]
  have : ((-1 : Int) + ((xs ++ [x]).length : Nat)).toNat = xs.length := by simp; omega
  rw [this]; simp
theorem wl8 {k : Str} (h : k ∈ words8) : wordS k = true := by
  have : words8.all wordS = true := by decide +kernel
  exact List.all_eq_true.mp this k h
theorem wl5 {k : Str} (h : k ∈ words5) : wordS k = true := by
  have : words5.all wordS = true := by decide +kernel
  exact List.all_eq_true.mp this k h
theorem word_len {x : Str} (h : wordS x = true) : x.length ≤ 10 := by
  unfold wordS at h; simp only [Bool.and_eq_true, decide_eq_true_eq] at h; exact h.2.1
theorem word_ok {x : Str} (h : wordS x = true) : okK x := by
  have := word_len h
  unfold wordS at h; simp only [Bool.and_eq_true, decide_eq_true_eq] at h; exact ⟨by omega, h.2.2⟩
theorem wordS_pl {x : Str} (h : wordS x = true) : plP (.str x) := by
  have := word_len h
  simp only [plP, plV, decide_eq_true_eq]; omega
theorem cut2 {x y : D} {r : List D} : cutD (x :: y :: r) (some 2) none = r := by
  unfold cutD
  have e1 : HT.sIx (x :: y :: r).length 0 (some 2) = min (Int.toNat 2) (x :: y :: r).length := by unfold HT.sIx; exact if_neg (by decide)
  have e2 : HT.sIx (x :: y :: r).length (x :: y :: r).length none = (x :: y :: r).length := rfl
  rw [e1, e2]
  show List.take ((x :: y :: r).length - min (Int.toNat 2) (x :: y :: r).length) (List.drop (min (Int.toNat 2) (x :: y :: r).length) (x :: y :: r)) = r
  have : min (Int.toNat 2) (x :: y :: r).length = 2 := by
    rw [show Int.toNat 2 = 2 from rfl]; simp only [List.length_cons]; omega
  rw [this]; simp
theorem cutr1 {x : D} {r : List D} : cutD (x :: r) (some 1) none = r := by rw [cut1]; rfl
abbrev heads6 : List D := [.str "begin", .str "read", .str "write", .str "undo", .str "mark", .str "end"]
theorem heads_eq : heads6 = (["begin", "read", "write", "undo", "mark", "end"] : List Str).map .str := rfl
theorem disp4 : keyed [((.str "read" : D), (.int 0 : D)), (.str "write", .int 2), (.str "undo", .int 1), (.str "mark", .int 0)] = some [(.inr "read", .int 0), (.inr "write", .int 2), (.inr "undo", .int 1), (.inr "mark", .int 0)] := rfl
abbrev pr4 : List (Key × D) := [(.inr "read", .int 0), (.inr "write", .int 2), (.inr "undo", .int 1), (.inr "mark", .int 0)]
theorem g4r : getK (mergeD [] [] pr4).1 (mergeD [] [] pr4).2 (.inr "read") = some (.int 0) := rfl
theorem g4w : getK (mergeD [] [] pr4).1 (mergeD [] [] pr4).2 (.inr "write") = some (.int 2) := rfl
theorem g4u : getK (mergeD [] [] pr4).1 (mergeD [] [] pr4).2 (.inr "undo") = some (.int 1) := rfl
theorem g4m : getK (mergeD [] [] pr4).1 (mergeD [] [] pr4).2 (.inr "mark") = some (.int 0) := rfl
theorem dl_is_row_value {M : St3} {ds : List D} {Q : KD} (h : yes rwP M ds Q) : td_is_row_value (sp1 plP fun d => .bl (isW d)) (yes fun d => ∃ o, d = oD o) spOne (yes hsP) (sp1 plP fun d => .bl (isC d)) (E0 Q) (ds.map some ++ List.replicate 4 none) M := by
  obtain ⟨d, rfl, ⟨r, rfl, hr⟩, q⟩ := h
  have tt : ∀ xs : List D, tyD (.tup xs) ≠ "" := fun xs => by simp [tyD]
  have ti : ∀ xs : List D, isaD (.tup xs) "tuple" = true := fun xs => rfl
  have ws : ∀ (os : List (Option Int)) (a b c d e : Option D), os.length ≤ 2 → lcGo (gtName 4) dYes (dCall 1 (yes fun d => ∃ o, d = oD o) (dCons (dVar 4) dNil)) (fun _ => True) (wipe3 [a, b, c, d, e] [4]) (fun acc M2 => oAll M2 [D.lst acc] Q) (os.map oD) [] M := fun os a b c d e hl => by
    refine lcGo_pure (fun _ => true) (fun _ => .bl true) trivial (by simp only [List.length_map, List.length_nil]; exact sz_le (by omega)) (fun y hy Kn Ks k1 k2 => ?_) ?_
    · obtain ⟨o, ho, rfl⟩ := List.mem_map.mp hy
      simp only [↓sSeq_u, ↓sNext_u, ↓sBreak_u, ↓sCont_u, ↓sDrop_u, ↓sRet_u, ↓sRetN_u, ↓sIf_u, ↓sAsg_u, ↓sPut_u, ↓sFor_u, ↓dC_u, ↓dNil_u, ↓dCons_u, ↓dBlt_u, ↓dOp2_u, ↓dUn_u, ↓dMeth_u, ↓dCall_u, ↓dCallK_u, ↓dNotT_u, ↓dAndT_u, ↓dOrT_u, ↓dIf_u, ↓dTup_u, ↓dLst_u, ↓dLstO_u, ↓dSl_u, ↓dNoPart_u, ↓dRev_u, ↓dYes_u, ↓dDic0_u, ↓dLc_u, ↓dEnum_u, ↓dZip_u, ↓gtName_u, ↓dSortSet_u, ↓dSetK_u, ↓dDisp_u, ↓dVar_m, ↓dTru_m, ↓dAnd_m, ↓dOr_m, ↓dNot_m, ↓dChain_m, ↓dIter_m, ↓dRange1_m, ↓dPart_m, ↓gtCons_m, ↓gtNil_m, ↓gtTup_m, ↓sPar_m, ↓oAdd_m, ↓oInt_m, ↓oNeg_m, ↓oOrd_m, ↓oIx_m, ↓oLen_m, ↓oToInt_m, ↓oToTup_m, ↓oToList_m, ↓oGet1_m, ↓oUpper_m, ↓oToStr_m, ↓oPop_m, ↓oAppend_m, ↓oPut_m, ↓oSIndex_m, ↓atI_m, ↓getK_m, ↓oSl, ↓oRev, ↓oIsi_T, ↓oMax2I, ↓oMulI, ↓eqI, ↓eqS, ↓eqL, ↓eqT, ↓neI, ↓neS, ↓neL, ↓neT, vw_non, vw_bl, vw_int, vw_str, vw_tup, vw_lst, vw_dic, vw_raw, vw_obj, truD, keyD, itemsOf, mthTy, lenD, seqD, List.map_cons, List.map_nil, List.cons_append, List.nil_append, List.getElem?_cons_zero, List.getElem?_cons_succ, List.getElem?_nil, List.set_cons_zero, List.set_cons_succ, List.length_cons, List.length_nil, ↓reduceIte, Bool.not_true, Bool.not_false, Bool.false_eq_true, true_and, and_true, List.replicate_zero, List.replicate_succ, List.append_nil, ↓sp1_m, ↓spRow_m, ↓spRis_m, ↓spPl_m, ↓spPg_m, ↓spDraw_m, ↓spDrw_m, ↓yes_m, ↓spBetween_m, wipe3]
      exact ⟨⟨o, rfl⟩, k1 rfl⟩
    · rw [filter_T]
      refine bls (f := fun _ => true) (fun _ _ => rfl) ?_
      rw [List.all_eq_true.mpr fun _ _ => rfl]; exact q
  have l3 : decide (((0 + 1 + 1 + 1 : Nat) : Int) < 3) = false := by decide
  have l4 : decide (((0 + 1 + 1 + 1 + 1 : Nat) : Int) < 3) = false := by decide
  have l5 : decide (((0 + 1 + 1 + 1 + 1 + 1 : Nat) : Int) < 3) = false := by decide
  have n0 : decide (((0 + 1 : Nat) : Int) = 1) = true := by decide
  have n1 : decide (((0 + 1 : Nat) : Int) = 0 + 1) = true := by decide
  have n2 : decide (((0 + 1 + 1 : Nat) : Int) = 2) = true := by decide
  have n3 : decide (((0 + 1 + 1 : Nat) : Int) = 1 + 1) = true := by decide
  have n4 : decide (((0 + 1 + 1 + 1 : Nat) : Int) = 2 + 1) = true := by decide
  have s1 : decide (("read" : Str) = "begin") = false := by decide
  have s2 : decide (("read" : Str) = "end") = false := by decide
  have s3 : decide (("write" : Str) = "begin") = false := by decide
  have s4 : decide (("write" : Str) = "end") = false := by decide
  have s5 : decide (("undo" : Str) = "begin") = false := by decide
  have s6 : decide (("undo" : Str) = "end") = false := by decide
  have s7 : decide (("mark" : Str) = "begin") = false := by decide
  have s8 : decide (("mark" : Str) = "end") = false := by decide
  have s9 : decide (("end" : Str) = "begin") = false := by decide
  have c0 : ∀ d : Int, dlo d → isC (.int d) = true := fun d h => by simp only [isC, decide_eq_true_eq]; exact h.1
  have W : ∀ k, k ∈ words8 ∨ k ∈ words5 → isW (.str k) = true ∧ plP (.str k) := fun k h => by
    have hw : wordS k = true := h.elim wl8 wl5
    exact ⟨hw, wordS_pl hw⟩
  cases r with
  | beg d r hs =>
    obtain ⟨hd, hr', hh⟩ := hr
    simp only [Rw.D, td_is_row_value, ↓sSeq_u, ↓sNext_u, ↓sBreak_u, ↓sCont_u, ↓sDrop_u, ↓sRet_u, ↓sRetN_u, ↓sIf_u, ↓sAsg_u, ↓sPut_u, ↓sFor_u, ↓dC_u, ↓dNil_u, ↓dCons_u, ↓dBlt_u, ↓dOp2_u, ↓dUn_u, ↓dMeth_u, ↓dCall_u, ↓dCallK_u, ↓dNotT_u, ↓dAndT_u, ↓dOrT_u, ↓dIf_u, ↓dTup_u, ↓dLst_u, ↓dLstO_u, ↓dSl_u, ↓dNoPart_u, ↓dRev_u, ↓dYes_u, ↓dDic0_u, ↓dLc_u, ↓dEnum_u, ↓dZip_u, ↓gtName_u, ↓dSortSet_u, ↓dSetK_u, ↓dDisp_u, ↓dVar_m, ↓dTru_m, ↓dAnd_m, ↓dOr_m, ↓dNot_m, ↓dChain_m, ↓dIter_m, ↓dRange1_m, ↓dPart_m, ↓gtCons_m, ↓gtNil_m, ↓gtTup_m, ↓sPar_m, ↓oAdd_m, ↓oInt_m, ↓oNeg_m, ↓oOrd_m, ↓oIx_m, ↓oLen_m, ↓oToInt_m, ↓oToTup_m, ↓oToList_m, ↓oGet1_m, ↓oUpper_m, ↓oToStr_m, ↓oPop_m, ↓oAppend_m, ↓oPut_m, ↓oSIndex_m, ↓atI_m, ↓getK_m, ↓oSl, ↓oRev, ↓oIsi_T, ↓oMax2I, ↓oMulI, ↓eqI, ↓eqS, ↓eqL, ↓eqT, ↓neI, ↓neS, ↓neL, ↓neT, vw_non, vw_bl, vw_int, vw_str, vw_tup, vw_lst, vw_dic, vw_raw, vw_obj, truD, keyD, itemsOf, mthTy, lenD, seqD, List.map_cons, List.map_nil, List.cons_append, List.nil_append, List.getElem?_cons_zero, List.getElem?_cons_succ, List.getElem?_nil, List.set_cons_zero, List.set_cons_succ, List.length_cons, List.length_nil, ↓reduceIte, Bool.not_true, Bool.not_false, Bool.false_eq_true, true_and, and_true, List.replicate_zero, List.replicate_succ, List.append_nil, ↓sp1_m, ↓spRow_m, ↓spRis_m, ↓spPl_m, ↓spPg_m, ↓spDraw_m, ↓spDrw_m, ↓yes_m, ↓spBetween_m, kt_t, ti, Ord4.iB, at0, at1, cut2, l4, n2, decide_true]
    refine ⟨tt _, one3 heads_eq (by simp) ?_⟩
    simp only [↓sSeq_u, ↓sNext_u, ↓sBreak_u, ↓sCont_u, ↓sDrop_u, ↓sRet_u, ↓sRetN_u, ↓sIf_u, ↓sAsg_u, ↓sPut_u, ↓sFor_u, ↓dC_u, ↓dNil_u, ↓dCons_u, ↓dBlt_u, ↓dOp2_u, ↓dUn_u, ↓dMeth_u, ↓dCall_u, ↓dCallK_u, ↓dNotT_u, ↓dAndT_u, ↓dOrT_u, ↓dIf_u, ↓dTup_u, ↓dLst_u, ↓dLstO_u, ↓dSl_u, ↓dNoPart_u, ↓dRev_u, ↓dYes_u, ↓dDic0_u, ↓dLc_u, ↓dEnum_u, ↓dZip_u, ↓gtName_u, ↓dSortSet_u, ↓dSetK_u, ↓dDisp_u, ↓dVar_m, ↓dTru_m, ↓dAnd_m, ↓dOr_m, ↓dNot_m, ↓dChain_m, ↓dIter_m, ↓dRange1_m, ↓dPart_m, ↓gtCons_m, ↓gtNil_m, ↓gtTup_m, ↓sPar_m, ↓oAdd_m, ↓oInt_m, ↓oNeg_m, ↓oOrd_m, ↓oIx_m, ↓oLen_m, ↓oToInt_m, ↓oToTup_m, ↓oToList_m, ↓oGet1_m, ↓oUpper_m, ↓oToStr_m, ↓oPop_m, ↓oAppend_m, ↓oPut_m, ↓oSIndex_m, ↓atI_m, ↓getK_m, ↓oSl, ↓oRev, ↓oIsi_T, ↓oMax2I, ↓oMulI, ↓eqI, ↓eqS, ↓eqL, ↓eqT, ↓neI, ↓neS, ↓neL, ↓neT, vw_non, vw_bl, vw_int, vw_str, vw_tup, vw_lst, vw_dic, vw_raw, vw_obj, truD, keyD, itemsOf, mthTy, lenD, seqD, List.map_cons, List.map_nil, List.cons_append, List.nil_append, List.getElem?_cons_zero, List.getElem?_cons_succ, List.getElem?_nil, List.set_cons_zero, List.set_cons_succ, List.length_cons, List.length_nil, ↓reduceIte, Bool.not_true, Bool.not_false, Bool.false_eq_true, true_and, and_true, List.replicate_zero, List.replicate_succ, List.append_nil, ↓sp1_m, ↓spRow_m, ↓spRis_m, ↓spPl_m, ↓spPg_m, ↓spDraw_m, ↓spDrw_m, ↓yes_m, ↓spBetween_m, c0 d hd]
    refine ⟨rfl, one3 (xs := ["leader", "member"]) rfl (by simpa using hr') ?_⟩
    simp only [↓sSeq_u, ↓sNext_u, ↓sBreak_u, ↓sCont_u, ↓sDrop_u, ↓sRet_u, ↓sRetN_u, ↓sIf_u, ↓sAsg_u, ↓sPut_u, ↓sFor_u, ↓dC_u, ↓dNil_u, ↓dCons_u, ↓dBlt_u, ↓dOp2_u, ↓dUn_u, ↓dMeth_u, ↓dCall_u, ↓dCallK_u, ↓dNotT_u, ↓dAndT_u, ↓dOrT_u, ↓dIf_u, ↓dTup_u, ↓dLst_u, ↓dLstO_u, ↓dSl_u, ↓dNoPart_u, ↓dRev_u, ↓dYes_u, ↓dDic0_u, ↓dLc_u, ↓dEnum_u, ↓dZip_u, ↓gtName_u, ↓dSortSet_u, ↓dSetK_u, ↓dDisp_u, ↓dVar_m, ↓dTru_m, ↓dAnd_m, ↓dOr_m, ↓dNot_m, ↓dChain_m, ↓dIter_m, ↓dRange1_m, ↓dPart_m, ↓gtCons_m, ↓gtNil_m, ↓gtTup_m, ↓sPar_m, ↓oAdd_m, ↓oInt_m, ↓oNeg_m, ↓oOrd_m, ↓oIx_m, ↓oLen_m, ↓oToInt_m, ↓oToTup_m, ↓oToList_m, ↓oGet1_m, ↓oUpper_m, ↓oToStr_m, ↓oPop_m, ↓oAppend_m, ↓oPut_m, ↓oSIndex_m, ↓atI_m, ↓getK_m, ↓oSl, ↓oRev, ↓oIsi_T, ↓oMax2I, ↓oMulI, ↓eqI, ↓eqS, ↓eqL, ↓eqT, ↓neI, ↓neS, ↓neL, ↓neT, vw_non, vw_bl, vw_int, vw_str, vw_tup, vw_lst, vw_dic, vw_raw, vw_obj, truD, keyD, itemsOf, mthTy, lenD, seqD, List.map_cons, List.map_nil, List.cons_append, List.nil_append, List.getElem?_cons_zero, List.getElem?_cons_succ, List.getElem?_nil, List.set_cons_zero, List.set_cons_succ, List.length_cons, List.length_nil, ↓reduceIte, Bool.not_true, Bool.not_false, Bool.false_eq_true, true_and, and_true, List.replicate_zero, List.replicate_succ, List.append_nil, ↓sp1_m, ↓spRow_m, ↓spRis_m, ↓spPl_m, ↓spPg_m, ↓spDraw_m, ↓spDrw_m, ↓yes_m, ↓spBetween_m]
    exact ⟨⟨hs, hh, rfl⟩, q⟩
  | en d w =>
    obtain ⟨hd, hw⟩ := hr
    simp only [Rw.D, td_is_row_value, ↓sSeq_u, ↓sNext_u, ↓sBreak_u, ↓sCont_u, ↓sDrop_u, ↓sRet_u, ↓sRetN_u, ↓sIf_u, ↓sAsg_u, ↓sPut_u, ↓sFor_u, ↓dC_u, ↓dNil_u, ↓dCons_u, ↓dBlt_u, ↓dOp2_u, ↓dUn_u, ↓dMeth_u, ↓dCall_u, ↓dCallK_u, ↓dNotT_u, ↓dAndT_u, ↓dOrT_u, ↓dIf_u, ↓dTup_u, ↓dLst_u, ↓dLstO_u, ↓dSl_u, ↓dNoPart_u, ↓dRev_u, ↓dYes_u, ↓dDic0_u, ↓dLc_u, ↓dEnum_u, ↓dZip_u, ↓gtName_u, ↓dSortSet_u, ↓dSetK_u, ↓dDisp_u, ↓dVar_m, ↓dTru_m, ↓dAnd_m, ↓dOr_m, ↓dNot_m, ↓dChain_m, ↓dIter_m, ↓dRange1_m, ↓dPart_m, ↓gtCons_m, ↓gtNil_m, ↓gtTup_m, ↓sPar_m, ↓oAdd_m, ↓oInt_m, ↓oNeg_m, ↓oOrd_m, ↓oIx_m, ↓oLen_m, ↓oToInt_m, ↓oToTup_m, ↓oToList_m, ↓oGet1_m, ↓oUpper_m, ↓oToStr_m, ↓oPop_m, ↓oAppend_m, ↓oPut_m, ↓oSIndex_m, ↓atI_m, ↓getK_m, ↓oSl, ↓oRev, ↓oIsi_T, ↓oMax2I, ↓oMulI, ↓eqI, ↓eqS, ↓eqL, ↓eqT, ↓neI, ↓neS, ↓neL, ↓neT, vw_non, vw_bl, vw_int, vw_str, vw_tup, vw_lst, vw_dic, vw_raw, vw_obj, truD, keyD, itemsOf, mthTy, lenD, seqD, List.map_cons, List.map_nil, List.cons_append, List.nil_append, List.getElem?_cons_zero, List.getElem?_cons_succ, List.getElem?_nil, List.set_cons_zero, List.set_cons_succ, List.length_cons, List.length_nil, ↓reduceIte, Bool.not_true, Bool.not_false, Bool.false_eq_true, true_and, and_true, List.replicate_zero, List.replicate_succ, List.append_nil, ↓sp1_m, ↓spRow_m, ↓spRis_m, ↓spPl_m, ↓spPg_m, ↓spDraw_m, ↓spDrw_m, ↓yes_m, ↓spBetween_m, kt_t, ti, Ord4.iB, at0, at1, cut2, l3, s9, n0, decide_true]
    refine ⟨tt _, one3 heads_eq (by simp) ?_⟩
    simp only [↓sSeq_u, ↓sNext_u, ↓sBreak_u, ↓sCont_u, ↓sDrop_u, ↓sRet_u, ↓sRetN_u, ↓sIf_u, ↓sAsg_u, ↓sPut_u, ↓sFor_u, ↓dC_u, ↓dNil_u, ↓dCons_u, ↓dBlt_u, ↓dOp2_u, ↓dUn_u, ↓dMeth_u, ↓dCall_u, ↓dCallK_u, ↓dNotT_u, ↓dAndT_u, ↓dOrT_u, ↓dIf_u, ↓dTup_u, ↓dLst_u, ↓dLstO_u, ↓dSl_u, ↓dNoPart_u, ↓dRev_u, ↓dYes_u, ↓dDic0_u, ↓dLc_u, ↓dEnum_u, ↓dZip_u, ↓gtName_u, ↓dSortSet_u, ↓dSetK_u, ↓dDisp_u, ↓dVar_m, ↓dTru_m, ↓dAnd_m, ↓dOr_m, ↓dNot_m, ↓dChain_m, ↓dIter_m, ↓dRange1_m, ↓dPart_m, ↓gtCons_m, ↓gtNil_m, ↓gtTup_m, ↓sPar_m, ↓oAdd_m, ↓oInt_m, ↓oNeg_m, ↓oOrd_m, ↓oIx_m, ↓oLen_m, ↓oToInt_m, ↓oToTup_m, ↓oToList_m, ↓oGet1_m, ↓oUpper_m, ↓oToStr_m, ↓oPop_m, ↓oAppend_m, ↓oPut_m, ↓oSIndex_m, ↓atI_m, ↓getK_m, ↓oSl, ↓oRev, ↓oIsi_T, ↓oMax2I, ↓oMulI, ↓eqI, ↓eqS, ↓eqL, ↓eqT, ↓neI, ↓neS, ↓neL, ↓neT, vw_non, vw_bl, vw_int, vw_str, vw_tup, vw_lst, vw_dic, vw_raw, vw_obj, truD, keyD, itemsOf, mthTy, lenD, seqD, List.map_cons, List.map_nil, List.cons_append, List.nil_append, List.getElem?_cons_zero, List.getElem?_cons_succ, List.getElem?_nil, List.set_cons_zero, List.set_cons_succ, List.length_cons, List.length_nil, ↓reduceIte, Bool.not_true, Bool.not_false, Bool.false_eq_true, true_and, and_true, List.replicate_zero, List.replicate_succ, List.append_nil, ↓sp1_m, ↓spRow_m, ↓spRis_m, ↓spPl_m, ↓spPg_m, ↓spDraw_m, ↓spDrw_m, ↓yes_m, ↓spBetween_m, c0 d hd]
    exact ⟨rfl, one3 (xs := ["kept", "dropped"]) rfl (by simpa using hw) q⟩
  | rd d k =>
    obtain ⟨hd, hk⟩ := hr
    obtain ⟨w1, w2⟩ := W k (.inl hk)
    simp only [Rw.D, td_is_row_value, ↓sSeq_u, ↓sNext_u, ↓sBreak_u, ↓sCont_u, ↓sDrop_u, ↓sRet_u, ↓sRetN_u, ↓sIf_u, ↓sAsg_u, ↓sPut_u, ↓sFor_u, ↓dC_u, ↓dNil_u, ↓dCons_u, ↓dBlt_u, ↓dOp2_u, ↓dUn_u, ↓dMeth_u, ↓dCall_u, ↓dCallK_u, ↓dNotT_u, ↓dAndT_u, ↓dOrT_u, ↓dIf_u, ↓dTup_u, ↓dLst_u, ↓dLstO_u, ↓dSl_u, ↓dNoPart_u, ↓dRev_u, ↓dYes_u, ↓dDic0_u, ↓dLc_u, ↓dEnum_u, ↓dZip_u, ↓gtName_u, ↓dSortSet_u, ↓dSetK_u, ↓dDisp_u, ↓dVar_m, ↓dTru_m, ↓dAnd_m, ↓dOr_m, ↓dNot_m, ↓dChain_m, ↓dIter_m, ↓dRange1_m, ↓dPart_m, ↓gtCons_m, ↓gtNil_m, ↓gtTup_m, ↓sPar_m, ↓oAdd_m, ↓oInt_m, ↓oNeg_m, ↓oOrd_m, ↓oIx_m, ↓oLen_m, ↓oToInt_m, ↓oToTup_m, ↓oToList_m, ↓oGet1_m, ↓oUpper_m, ↓oToStr_m, ↓oPop_m, ↓oAppend_m, ↓oPut_m, ↓oSIndex_m, ↓atI_m, ↓getK_m, ↓oSl, ↓oRev, ↓oIsi_T, ↓oMax2I, ↓oMulI, ↓eqI, ↓eqS, ↓eqL, ↓eqT, ↓neI, ↓neS, ↓neL, ↓neT, vw_non, vw_bl, vw_int, vw_str, vw_tup, vw_lst, vw_dic, vw_raw, vw_obj, truD, keyD, itemsOf, mthTy, lenD, seqD, List.map_cons, List.map_nil, List.cons_append, List.nil_append, List.getElem?_cons_zero, List.getElem?_cons_succ, List.getElem?_nil, List.set_cons_zero, List.set_cons_succ, List.length_cons, List.length_nil, ↓reduceIte, Bool.not_true, Bool.not_false, Bool.false_eq_true, true_and, and_true, List.replicate_zero, List.replicate_succ, List.append_nil, ↓sp1_m, ↓spRow_m, ↓spRis_m, ↓spPl_m, ↓spPg_m, ↓spDraw_m, ↓spDrw_m, ↓yes_m, ↓spBetween_m, kt_t, ti, Ord4.iB, at0, at1, cut2, l3, s1, s2, dPairs]
    refine ⟨tt _, one3 heads_eq (by simp) ?_⟩
    simp only [↓sSeq_u, ↓sNext_u, ↓sBreak_u, ↓sCont_u, ↓sDrop_u, ↓sRet_u, ↓sRetN_u, ↓sIf_u, ↓sAsg_u, ↓sPut_u, ↓sFor_u, ↓dC_u, ↓dNil_u, ↓dCons_u, ↓dBlt_u, ↓dOp2_u, ↓dUn_u, ↓dMeth_u, ↓dCall_u, ↓dCallK_u, ↓dNotT_u, ↓dAndT_u, ↓dOrT_u, ↓dIf_u, ↓dTup_u, ↓dLst_u, ↓dLstO_u, ↓dSl_u, ↓dNoPart_u, ↓dRev_u, ↓dYes_u, ↓dDic0_u, ↓dLc_u, ↓dEnum_u, ↓dZip_u, ↓gtName_u, ↓dSortSet_u, ↓dSetK_u, ↓dDisp_u, ↓dVar_m, ↓dTru_m, ↓dAnd_m, ↓dOr_m, ↓dNot_m, ↓dChain_m, ↓dIter_m, ↓dRange1_m, ↓dPart_m, ↓gtCons_m, ↓gtNil_m, ↓gtTup_m, ↓sPar_m, ↓oAdd_m, ↓oInt_m, ↓oNeg_m, ↓oOrd_m, ↓oIx_m, ↓oLen_m, ↓oToInt_m, ↓oToTup_m, ↓oToList_m, ↓oGet1_m, ↓oUpper_m, ↓oToStr_m, ↓oPop_m, ↓oAppend_m, ↓oPut_m, ↓oSIndex_m, ↓atI_m, ↓getK_m, ↓oSl, ↓oRev, ↓oIsi_T, ↓oMax2I, ↓oMulI, ↓eqI, ↓eqS, ↓eqL, ↓eqT, ↓neI, ↓neS, ↓neL, ↓neT, vw_non, vw_bl, vw_int, vw_str, vw_tup, vw_lst, vw_dic, vw_raw, vw_obj, truD, keyD, itemsOf, mthTy, lenD, seqD, List.map_cons, List.map_nil, List.cons_append, List.nil_append, List.getElem?_cons_zero, List.getElem?_cons_succ, List.getElem?_nil, List.set_cons_zero, List.set_cons_succ, List.length_cons, List.length_nil, ↓reduceIte, Bool.not_true, Bool.not_false, Bool.false_eq_true, true_and, and_true, List.replicate_zero, List.replicate_succ, List.append_nil, ↓sp1_m, ↓spRow_m, ↓spRis_m, ↓spPl_m, ↓spPg_m, ↓spDraw_m, ↓spDrw_m, ↓yes_m, ↓spBetween_m, c0 d hd]
    refine ⟨rfl, pr4, disp4, by decide, ?_⟩
    simp only [mkDic, g4r, ↓sSeq_u, ↓sNext_u, ↓sBreak_u, ↓sCont_u, ↓sDrop_u, ↓sRet_u, ↓sRetN_u, ↓sIf_u, ↓sAsg_u, ↓sPut_u, ↓sFor_u, ↓dC_u, ↓dNil_u, ↓dCons_u, ↓dBlt_u, ↓dOp2_u, ↓dUn_u, ↓dMeth_u, ↓dCall_u, ↓dCallK_u, ↓dNotT_u, ↓dAndT_u, ↓dOrT_u, ↓dIf_u, ↓dTup_u, ↓dLst_u, ↓dLstO_u, ↓dSl_u, ↓dNoPart_u, ↓dRev_u, ↓dYes_u, ↓dDic0_u, ↓dLc_u, ↓dEnum_u, ↓dZip_u, ↓gtName_u, ↓dSortSet_u, ↓dSetK_u, ↓dDisp_u, ↓dVar_m, ↓dTru_m, ↓dAnd_m, ↓dOr_m, ↓dNot_m, ↓dChain_m, ↓dIter_m, ↓dRange1_m, ↓dPart_m, ↓gtCons_m, ↓gtNil_m, ↓gtTup_m, ↓sPar_m, ↓oAdd_m, ↓oInt_m, ↓oNeg_m, ↓oOrd_m, ↓oIx_m, ↓oLen_m, ↓oToInt_m, ↓oToTup_m, ↓oToList_m, ↓oGet1_m, ↓oUpper_m, ↓oToStr_m, ↓oPop_m, ↓oAppend_m, ↓oPut_m, ↓oSIndex_m, ↓atI_m, ↓getK_m, ↓oSl, ↓oRev, ↓oIsi_T, ↓oMax2I, ↓oMulI, ↓eqI, ↓eqS, ↓eqL, ↓eqT, ↓neI, ↓neS, ↓neL, ↓neT, vw_non, vw_bl, vw_int, vw_str, vw_tup, vw_lst, vw_dic, vw_raw, vw_obj, truD, keyD, itemsOf, mthTy, lenD, seqD, List.map_cons, List.map_nil, List.cons_append, List.nil_append, List.getElem?_cons_zero, List.getElem?_cons_succ, List.getElem?_nil, List.set_cons_zero, List.set_cons_succ, List.length_cons, List.length_nil, ↓reduceIte, Bool.not_true, Bool.not_false, Bool.false_eq_true, true_and, and_true, List.replicate_zero, List.replicate_succ, List.append_nil, ↓sp1_m, ↓spRow_m, ↓spRis_m, ↓spPl_m, ↓spPg_m, ↓spDraw_m, ↓spDrw_m, ↓yes_m, ↓spBetween_m]
    refine ⟨w2, ?_⟩
    simp only [w1, n1, cutr1, ↓sSeq_u, ↓sNext_u, ↓sBreak_u, ↓sCont_u, ↓sDrop_u, ↓sRet_u, ↓sRetN_u, ↓sIf_u, ↓sAsg_u, ↓sPut_u, ↓sFor_u, ↓dC_u, ↓dNil_u, ↓dCons_u, ↓dBlt_u, ↓dOp2_u, ↓dUn_u, ↓dMeth_u, ↓dCall_u, ↓dCallK_u, ↓dNotT_u, ↓dAndT_u, ↓dOrT_u, ↓dIf_u, ↓dTup_u, ↓dLst_u, ↓dLstO_u, ↓dSl_u, ↓dNoPart_u, ↓dRev_u, ↓dYes_u, ↓dDic0_u, ↓dLc_u, ↓dEnum_u, ↓dZip_u, ↓gtName_u, ↓dSortSet_u, ↓dSetK_u, ↓dDisp_u, ↓dVar_m, ↓dTru_m, ↓dAnd_m, ↓dOr_m, ↓dNot_m, ↓dChain_m, ↓dIter_m, ↓dRange1_m, ↓dPart_m, ↓gtCons_m, ↓gtNil_m, ↓gtTup_m, ↓sPar_m, ↓oAdd_m, ↓oInt_m, ↓oNeg_m, ↓oOrd_m, ↓oIx_m, ↓oLen_m, ↓oToInt_m, ↓oToTup_m, ↓oToList_m, ↓oGet1_m, ↓oUpper_m, ↓oToStr_m, ↓oPop_m, ↓oAppend_m, ↓oPut_m, ↓oSIndex_m, ↓atI_m, ↓getK_m, ↓oSl, ↓oRev, ↓oIsi_T, ↓oMax2I, ↓oMulI, ↓eqI, ↓eqS, ↓eqL, ↓eqT, ↓neI, ↓neS, ↓neL, ↓neT, vw_non, vw_bl, vw_int, vw_str, vw_tup, vw_lst, vw_dic, vw_raw, vw_obj, truD, keyD, itemsOf, mthTy, lenD, seqD, List.map_cons, List.map_nil, List.cons_append, List.nil_append, List.getElem?_cons_zero, List.getElem?_cons_succ, List.getElem?_nil, List.set_cons_zero, List.set_cons_succ, List.length_cons, List.length_nil, ↓reduceIte, Bool.not_true, Bool.not_false, Bool.false_eq_true, true_and, and_true, List.replicate_zero, List.replicate_succ, List.append_nil, ↓sp1_m, ↓spRow_m, ↓spRis_m, ↓spPl_m, ↓spPg_m, ↓spDraw_m, ↓spDrw_m, ↓yes_m, ↓spBetween_m]
    exact ws [] _ _ _ _ _ (by decide)
  | mk d k =>
    obtain ⟨hd, hk⟩ := hr
    obtain ⟨w1, w2⟩ := W k (.inr hk)
    simp only [Rw.D, td_is_row_value, ↓sSeq_u, ↓sNext_u, ↓sBreak_u, ↓sCont_u, ↓sDrop_u, ↓sRet_u, ↓sRetN_u, ↓sIf_u, ↓sAsg_u, ↓sPut_u, ↓sFor_u, ↓dC_u, ↓dNil_u, ↓dCons_u, ↓dBlt_u, ↓dOp2_u, ↓dUn_u, ↓dMeth_u, ↓dCall_u, ↓dCallK_u, ↓dNotT_u, ↓dAndT_u, ↓dOrT_u, ↓dIf_u, ↓dTup_u, ↓dLst_u, ↓dLstO_u, ↓dSl_u, ↓dNoPart_u, ↓dRev_u, ↓dYes_u, ↓dDic0_u, ↓dLc_u, ↓dEnum_u, ↓dZip_u, ↓gtName_u, ↓dSortSet_u, ↓dSetK_u, ↓dDisp_u, ↓dVar_m, ↓dTru_m, ↓dAnd_m, ↓dOr_m, ↓dNot_m, ↓dChain_m, ↓dIter_m, ↓dRange1_m, ↓dPart_m, ↓gtCons_m, ↓gtNil_m, ↓gtTup_m, ↓sPar_m, ↓oAdd_m, ↓oInt_m, ↓oNeg_m, ↓oOrd_m, ↓oIx_m, ↓oLen_m, ↓oToInt_m, ↓oToTup_m, ↓oToList_m, ↓oGet1_m, ↓oUpper_m, ↓oToStr_m, ↓oPop_m, ↓oAppend_m, ↓oPut_m, ↓oSIndex_m, ↓atI_m, ↓getK_m, ↓oSl, ↓oRev, ↓oIsi_T, ↓oMax2I, ↓oMulI, ↓eqI, ↓eqS, ↓eqL, ↓eqT, ↓neI, ↓neS, ↓neL, ↓neT, vw_non, vw_bl, vw_int, vw_str, vw_tup, vw_lst, vw_dic, vw_raw, vw_obj, truD, keyD, itemsOf, mthTy, lenD, seqD, List.map_cons, List.map_nil, List.cons_append, List.nil_append, List.getElem?_cons_zero, List.getElem?_cons_succ, List.getElem?_nil, List.set_cons_zero, List.set_cons_succ, List.length_cons, List.length_nil, ↓reduceIte, Bool.not_true, Bool.not_false, Bool.false_eq_true, true_and, and_true, List.replicate_zero, List.replicate_succ, List.append_nil, ↓sp1_m, ↓spRow_m, ↓spRis_m, ↓spPl_m, ↓spPg_m, ↓spDraw_m, ↓spDrw_m, ↓yes_m, ↓spBetween_m, kt_t, ti, Ord4.iB, at0, at1, cut2, l3, s7, s8, dPairs]
    refine ⟨tt _, one3 heads_eq (by simp) ?_⟩
    simp only [↓sSeq_u, ↓sNext_u, ↓sBreak_u, ↓sCont_u, ↓sDrop_u, ↓sRet_u, ↓sRetN_u, ↓sIf_u, ↓sAsg_u, ↓sPut_u, ↓sFor_u, ↓dC_u, ↓dNil_u, ↓dCons_u, ↓dBlt_u, ↓dOp2_u, ↓dUn_u, ↓dMeth_u, ↓dCall_u, ↓dCallK_u, ↓dNotT_u, ↓dAndT_u, ↓dOrT_u, ↓dIf_u, ↓dTup_u, ↓dLst_u, ↓dLstO_u, ↓dSl_u, ↓dNoPart_u, ↓dRev_u, ↓dYes_u, ↓dDic0_u, ↓dLc_u, ↓dEnum_u, ↓dZip_u, ↓gtName_u, ↓dSortSet_u, ↓dSetK_u, ↓dDisp_u, ↓dVar_m, ↓dTru_m, ↓dAnd_m, ↓dOr_m, ↓dNot_m, ↓dChain_m, ↓dIter_m, ↓dRange1_m, ↓dPart_m, ↓gtCons_m, ↓gtNil_m, ↓gtTup_m, ↓sPar_m, ↓oAdd_m, ↓oInt_m, ↓oNeg_m, ↓oOrd_m, ↓oIx_m, ↓oLen_m, ↓oToInt_m, ↓oToTup_m, ↓oToList_m, ↓oGet1_m, ↓oUpper_m, ↓oToStr_m, ↓oPop_m, ↓oAppend_m, ↓oPut_m, ↓oSIndex_m, ↓atI_m, ↓getK_m, ↓oSl, ↓oRev, ↓oIsi_T, ↓oMax2I, ↓oMulI, ↓eqI, ↓eqS, ↓eqL, ↓eqT, ↓neI, ↓neS, ↓neL, ↓neT, vw_non, vw_bl, vw_int, vw_str, vw_tup, vw_lst, vw_dic, vw_raw, vw_obj, truD, keyD, itemsOf, mthTy, lenD, seqD, List.map_cons, List.map_nil, List.cons_append, List.nil_append, List.getElem?_cons_zero, List.getElem?_cons_succ, List.getElem?_nil, List.set_cons_zero, List.set_cons_succ, List.length_cons, List.length_nil, ↓reduceIte, Bool.not_true, Bool.not_false, Bool.false_eq_true, true_and, and_true, List.replicate_zero, List.replicate_succ, List.append_nil, ↓sp1_m, ↓spRow_m, ↓spRis_m, ↓spPl_m, ↓spPg_m, ↓spDraw_m, ↓spDrw_m, ↓yes_m, ↓spBetween_m, c0 d hd]
    refine ⟨rfl, pr4, disp4, by decide, ?_⟩
    simp only [mkDic, g4m, ↓sSeq_u, ↓sNext_u, ↓sBreak_u, ↓sCont_u, ↓sDrop_u, ↓sRet_u, ↓sRetN_u, ↓sIf_u, ↓sAsg_u, ↓sPut_u, ↓sFor_u, ↓dC_u, ↓dNil_u, ↓dCons_u, ↓dBlt_u, ↓dOp2_u, ↓dUn_u, ↓dMeth_u, ↓dCall_u, ↓dCallK_u, ↓dNotT_u, ↓dAndT_u, ↓dOrT_u, ↓dIf_u, ↓dTup_u, ↓dLst_u, ↓dLstO_u, ↓dSl_u, ↓dNoPart_u, ↓dRev_u, ↓dYes_u, ↓dDic0_u, ↓dLc_u, ↓dEnum_u, ↓dZip_u, ↓gtName_u, ↓dSortSet_u, ↓dSetK_u, ↓dDisp_u, ↓dVar_m, ↓dTru_m, ↓dAnd_m, ↓dOr_m, ↓dNot_m, ↓dChain_m, ↓dIter_m, ↓dRange1_m, ↓dPart_m, ↓gtCons_m, ↓gtNil_m, ↓gtTup_m, ↓sPar_m, ↓oAdd_m, ↓oInt_m, ↓oNeg_m, ↓oOrd_m, ↓oIx_m, ↓oLen_m, ↓oToInt_m, ↓oToTup_m, ↓oToList_m, ↓oGet1_m, ↓oUpper_m, ↓oToStr_m, ↓oPop_m, ↓oAppend_m, ↓oPut_m, ↓oSIndex_m, ↓atI_m, ↓getK_m, ↓oSl, ↓oRev, ↓oIsi_T, ↓oMax2I, ↓oMulI, ↓eqI, ↓eqS, ↓eqL, ↓eqT, ↓neI, ↓neS, ↓neL, ↓neT, vw_non, vw_bl, vw_int, vw_str, vw_tup, vw_lst, vw_dic, vw_raw, vw_obj, truD, keyD, itemsOf, mthTy, lenD, seqD, List.map_cons, List.map_nil, List.cons_append, List.nil_append, List.getElem?_cons_zero, List.getElem?_cons_succ, List.getElem?_nil, List.set_cons_zero, List.set_cons_succ, List.length_cons, List.length_nil, ↓reduceIte, Bool.not_true, Bool.not_false, Bool.false_eq_true, true_and, and_true, List.replicate_zero, List.replicate_succ, List.append_nil, ↓sp1_m, ↓spRow_m, ↓spRis_m, ↓spPl_m, ↓spPg_m, ↓spDraw_m, ↓spDrw_m, ↓yes_m, ↓spBetween_m]
    refine ⟨w2, ?_⟩
    simp only [w1, n1, cutr1, ↓sSeq_u, ↓sNext_u, ↓sBreak_u, ↓sCont_u, ↓sDrop_u, ↓sRet_u, ↓sRetN_u, ↓sIf_u, ↓sAsg_u, ↓sPut_u, ↓sFor_u, ↓dC_u, ↓dNil_u, ↓dCons_u, ↓dBlt_u, ↓dOp2_u, ↓dUn_u, ↓dMeth_u, ↓dCall_u, ↓dCallK_u, ↓dNotT_u, ↓dAndT_u, ↓dOrT_u, ↓dIf_u, ↓dTup_u, ↓dLst_u, ↓dLstO_u, ↓dSl_u, ↓dNoPart_u, ↓dRev_u, ↓dYes_u, ↓dDic0_u, ↓dLc_u, ↓dEnum_u, ↓dZip_u, ↓gtName_u, ↓dSortSet_u, ↓dSetK_u, ↓dDisp_u, ↓dVar_m, ↓dTru_m, ↓dAnd_m, ↓dOr_m, ↓dNot_m, ↓dChain_m, ↓dIter_m, ↓dRange1_m, ↓dPart_m, ↓gtCons_m, ↓gtNil_m, ↓gtTup_m, ↓sPar_m, ↓oAdd_m, ↓oInt_m, ↓oNeg_m, ↓oOrd_m, ↓oIx_m, ↓oLen_m, ↓oToInt_m, ↓oToTup_m, ↓oToList_m, ↓oGet1_m, ↓oUpper_m, ↓oToStr_m, ↓oPop_m, ↓oAppend_m, ↓oPut_m, ↓oSIndex_m, ↓atI_m, ↓getK_m, ↓oSl, ↓oRev, ↓oIsi_T, ↓oMax2I, ↓oMulI, ↓eqI, ↓eqS, ↓eqL, ↓eqT, ↓neI, ↓neS, ↓neL, ↓neT, vw_non, vw_bl, vw_int, vw_str, vw_tup, vw_lst, vw_dic, vw_raw, vw_obj, truD, keyD, itemsOf, mthTy, lenD, seqD, List.map_cons, List.map_nil, List.cons_append, List.nil_append, List.getElem?_cons_zero, List.getElem?_cons_succ, List.getElem?_nil, List.set_cons_zero, List.set_cons_succ, List.length_cons, List.length_nil, ↓reduceIte, Bool.not_true, Bool.not_false, Bool.false_eq_true, true_and, and_true, List.replicate_zero, List.replicate_succ, List.append_nil, ↓sp1_m, ↓spRow_m, ↓spRis_m, ↓spPl_m, ↓spPg_m, ↓spDraw_m, ↓spDrw_m, ↓yes_m, ↓spBetween_m]
    exact ws [] _ _ _ _ _ (by decide)
  | wr d k o n =>
    obtain ⟨hd, hk, _, _⟩ := hr
    obtain ⟨w1, w2⟩ := W k (.inl hk)
    simp only [Rw.D, td_is_row_value, ↓sSeq_u, ↓sNext_u, ↓sBreak_u, ↓sCont_u, ↓sDrop_u, ↓sRet_u, ↓sRetN_u, ↓sIf_u, ↓sAsg_u, ↓sPut_u, ↓sFor_u, ↓dC_u, ↓dNil_u, ↓dCons_u, ↓dBlt_u, ↓dOp2_u, ↓dUn_u, ↓dMeth_u, ↓dCall_u, ↓dCallK_u, ↓dNotT_u, ↓dAndT_u, ↓dOrT_u, ↓dIf_u, ↓dTup_u, ↓dLst_u, ↓dLstO_u, ↓dSl_u, ↓dNoPart_u, ↓dRev_u, ↓dYes_u, ↓dDic0_u, ↓dLc_u, ↓dEnum_u, ↓dZip_u, ↓gtName_u, ↓dSortSet_u, ↓dSetK_u, ↓dDisp_u, ↓dVar_m, ↓dTru_m, ↓dAnd_m, ↓dOr_m, ↓dNot_m, ↓dChain_m, ↓dIter_m, ↓dRange1_m, ↓dPart_m, ↓gtCons_m, ↓gtNil_m, ↓gtTup_m, ↓sPar_m, ↓oAdd_m, ↓oInt_m, ↓oNeg_m, ↓oOrd_m, ↓oIx_m, ↓oLen_m, ↓oToInt_m, ↓oToTup_m, ↓oToList_m, ↓oGet1_m, ↓oUpper_m, ↓oToStr_m, ↓oPop_m, ↓oAppend_m, ↓oPut_m, ↓oSIndex_m, ↓atI_m, ↓getK_m, ↓oSl, ↓oRev, ↓oIsi_T, ↓oMax2I, ↓oMulI, ↓eqI, ↓eqS, ↓eqL, ↓eqT, ↓neI, ↓neS, ↓neL, ↓neT, vw_non, vw_bl, vw_int, vw_str, vw_tup, vw_lst, vw_dic, vw_raw, vw_obj, truD, keyD, itemsOf, mthTy, lenD, seqD, List.map_cons, List.map_nil, List.cons_append, List.nil_append, List.getElem?_cons_zero, List.getElem?_cons_succ, List.getElem?_nil, List.set_cons_zero, List.set_cons_succ, List.length_cons, List.length_nil, ↓reduceIte, Bool.not_true, Bool.not_false, Bool.false_eq_true, true_and, and_true, List.replicate_zero, List.replicate_succ, List.append_nil, ↓sp1_m, ↓spRow_m, ↓spRis_m, ↓spPl_m, ↓spPg_m, ↓spDraw_m, ↓spDrw_m, ↓yes_m, ↓spBetween_m, kt_t, ti, Ord4.iB, at0, at1, cut2, l5, s3, s4, dPairs]
    refine ⟨tt _, one3 heads_eq (by simp) ?_⟩
    simp only [↓sSeq_u, ↓sNext_u, ↓sBreak_u, ↓sCont_u, ↓sDrop_u, ↓sRet_u, ↓sRetN_u, ↓sIf_u, ↓sAsg_u, ↓sPut_u, ↓sFor_u, ↓dC_u, ↓dNil_u, ↓dCons_u, ↓dBlt_u, ↓dOp2_u, ↓dUn_u, ↓dMeth_u, ↓dCall_u, ↓dCallK_u, ↓dNotT_u, ↓dAndT_u, ↓dOrT_u, ↓dIf_u, ↓dTup_u, ↓dLst_u, ↓dLstO_u, ↓dSl_u, ↓dNoPart_u, ↓dRev_u, ↓dYes_u, ↓dDic0_u, ↓dLc_u, ↓dEnum_u, ↓dZip_u, ↓gtName_u, ↓dSortSet_u, ↓dSetK_u, ↓dDisp_u, ↓dVar_m, ↓dTru_m, ↓dAnd_m, ↓dOr_m, ↓dNot_m, ↓dChain_m, ↓dIter_m, ↓dRange1_m, ↓dPart_m, ↓gtCons_m, ↓gtNil_m, ↓gtTup_m, ↓sPar_m, ↓oAdd_m, ↓oInt_m, ↓oNeg_m, ↓oOrd_m, ↓oIx_m, ↓oLen_m, ↓oToInt_m, ↓oToTup_m, ↓oToList_m, ↓oGet1_m, ↓oUpper_m, ↓oToStr_m, ↓oPop_m, ↓oAppend_m, ↓oPut_m, ↓oSIndex_m, ↓atI_m, ↓getK_m, ↓oSl, ↓oRev, ↓oIsi_T, ↓oMax2I, ↓oMulI, ↓eqI, ↓eqS, ↓eqL, ↓eqT, ↓neI, ↓neS, ↓neL, ↓neT, vw_non, vw_bl, vw_int, vw_str, vw_tup, vw_lst, vw_dic, vw_raw, vw_obj, truD, keyD, itemsOf, mthTy, lenD, seqD, List.map_cons, List.map_nil, List.cons_append, List.nil_append, List.getElem?_cons_zero, List.getElem?_cons_succ, List.getElem?_nil, List.set_cons_zero, List.set_cons_succ, List.length_cons, List.length_nil, ↓reduceIte, Bool.not_true, Bool.not_false, Bool.false_eq_true, true_and, and_true, List.replicate_zero, List.replicate_succ, List.append_nil, ↓sp1_m, ↓spRow_m, ↓spRis_m, ↓spPl_m, ↓spPg_m, ↓spDraw_m, ↓spDrw_m, ↓yes_m, ↓spBetween_m, c0 d hd]
    refine ⟨rfl, pr4, disp4, by decide, ?_⟩
    simp only [mkDic, g4w, ↓sSeq_u, ↓sNext_u, ↓sBreak_u, ↓sCont_u, ↓sDrop_u, ↓sRet_u, ↓sRetN_u, ↓sIf_u, ↓sAsg_u, ↓sPut_u, ↓sFor_u, ↓dC_u, ↓dNil_u, ↓dCons_u, ↓dBlt_u, ↓dOp2_u, ↓dUn_u, ↓dMeth_u, ↓dCall_u, ↓dCallK_u, ↓dNotT_u, ↓dAndT_u, ↓dOrT_u, ↓dIf_u, ↓dTup_u, ↓dLst_u, ↓dLstO_u, ↓dSl_u, ↓dNoPart_u, ↓dRev_u, ↓dYes_u, ↓dDic0_u, ↓dLc_u, ↓dEnum_u, ↓dZip_u, ↓gtName_u, ↓dSortSet_u, ↓dSetK_u, ↓dDisp_u, ↓dVar_m, ↓dTru_m, ↓dAnd_m, ↓dOr_m, ↓dNot_m, ↓dChain_m, ↓dIter_m, ↓dRange1_m, ↓dPart_m, ↓gtCons_m, ↓gtNil_m, ↓gtTup_m, ↓sPar_m, ↓oAdd_m, ↓oInt_m, ↓oNeg_m, ↓oOrd_m, ↓oIx_m, ↓oLen_m, ↓oToInt_m, ↓oToTup_m, ↓oToList_m, ↓oGet1_m, ↓oUpper_m, ↓oToStr_m, ↓oPop_m, ↓oAppend_m, ↓oPut_m, ↓oSIndex_m, ↓atI_m, ↓getK_m, ↓oSl, ↓oRev, ↓oIsi_T, ↓oMax2I, ↓oMulI, ↓eqI, ↓eqS, ↓eqL, ↓eqT, ↓neI, ↓neS, ↓neL, ↓neT, vw_non, vw_bl, vw_int, vw_str, vw_tup, vw_lst, vw_dic, vw_raw, vw_obj, truD, keyD, itemsOf, mthTy, lenD, seqD, List.map_cons, List.map_nil, List.cons_append, List.nil_append, List.getElem?_cons_zero, List.getElem?_cons_succ, List.getElem?_nil, List.set_cons_zero, List.set_cons_succ, List.length_cons, List.length_nil, ↓reduceIte, Bool.not_true, Bool.not_false, Bool.false_eq_true, true_and, and_true, List.replicate_zero, List.replicate_succ, List.append_nil, ↓sp1_m, ↓spRow_m, ↓spRis_m, ↓spPl_m, ↓spPg_m, ↓spDraw_m, ↓spDrw_m, ↓yes_m, ↓spBetween_m]
    refine ⟨w2, ?_⟩
    simp only [w1, n4, cutr1, ↓sSeq_u, ↓sNext_u, ↓sBreak_u, ↓sCont_u, ↓sDrop_u, ↓sRet_u, ↓sRetN_u, ↓sIf_u, ↓sAsg_u, ↓sPut_u, ↓sFor_u, ↓dC_u, ↓dNil_u, ↓dCons_u, ↓dBlt_u, ↓dOp2_u, ↓dUn_u, ↓dMeth_u, ↓dCall_u, ↓dCallK_u, ↓dNotT_u, ↓dAndT_u, ↓dOrT_u, ↓dIf_u, ↓dTup_u, ↓dLst_u, ↓dLstO_u, ↓dSl_u, ↓dNoPart_u, ↓dRev_u, ↓dYes_u, ↓dDic0_u, ↓dLc_u, ↓dEnum_u, ↓dZip_u, ↓gtName_u, ↓dSortSet_u, ↓dSetK_u, ↓dDisp_u, ↓dVar_m, ↓dTru_m, ↓dAnd_m, ↓dOr_m, ↓dNot_m, ↓dChain_m, ↓dIter_m, ↓dRange1_m, ↓dPart_m, ↓gtCons_m, ↓gtNil_m, ↓gtTup_m, ↓sPar_m, ↓oAdd_m, ↓oInt_m, ↓oNeg_m, ↓oOrd_m, ↓oIx_m, ↓oLen_m, ↓oToInt_m, ↓oToTup_m, ↓oToList_m, ↓oGet1_m, ↓oUpper_m, ↓oToStr_m, ↓oPop_m, ↓oAppend_m, ↓oPut_m, ↓oSIndex_m, ↓atI_m, ↓getK_m, ↓oSl, ↓oRev, ↓oIsi_T, ↓oMax2I, ↓oMulI, ↓eqI, ↓eqS, ↓eqL, ↓eqT, ↓neI, ↓neS, ↓neL, ↓neT, vw_non, vw_bl, vw_int, vw_str, vw_tup, vw_lst, vw_dic, vw_raw, vw_obj, truD, keyD, itemsOf, mthTy, lenD, seqD, List.map_cons, List.map_nil, List.cons_append, List.nil_append, List.getElem?_cons_zero, List.getElem?_cons_succ, List.getElem?_nil, List.set_cons_zero, List.set_cons_succ, List.length_cons, List.length_nil, ↓reduceIte, Bool.not_true, Bool.not_false, Bool.false_eq_true, true_and, and_true, List.replicate_zero, List.replicate_succ, List.append_nil, ↓sp1_m, ↓spRow_m, ↓spRis_m, ↓spPl_m, ↓spPg_m, ↓spDraw_m, ↓spDrw_m, ↓yes_m, ↓spBetween_m]
    exact ws [o, n] _ _ _ _ _ (by simp)
  | un d k w =>
    obtain ⟨hd, hk, _⟩ := hr
    obtain ⟨w1, w2⟩ := W k (.inl hk)
    simp only [Rw.D, td_is_row_value, ↓sSeq_u, ↓sNext_u, ↓sBreak_u, ↓sCont_u, ↓sDrop_u, ↓sRet_u, ↓sRetN_u, ↓sIf_u, ↓sAsg_u, ↓sPut_u, ↓sFor_u, ↓dC_u, ↓dNil_u, ↓dCons_u, ↓dBlt_u, ↓dOp2_u, ↓dUn_u, ↓dMeth_u, ↓dCall_u, ↓dCallK_u, ↓dNotT_u, ↓dAndT_u, ↓dOrT_u, ↓dIf_u, ↓dTup_u, ↓dLst_u, ↓dLstO_u, ↓dSl_u, ↓dNoPart_u, ↓dRev_u, ↓dYes_u, ↓dDic0_u, ↓dLc_u, ↓dEnum_u, ↓dZip_u, ↓gtName_u, ↓dSortSet_u, ↓dSetK_u, ↓dDisp_u, ↓dVar_m, ↓dTru_m, ↓dAnd_m, ↓dOr_m, ↓dNot_m, ↓dChain_m, ↓dIter_m, ↓dRange1_m, ↓dPart_m, ↓gtCons_m, ↓gtNil_m, ↓gtTup_m, ↓sPar_m, ↓oAdd_m, ↓oInt_m, ↓oNeg_m, ↓oOrd_m, ↓oIx_m, ↓oLen_m, ↓oToInt_m, ↓oToTup_m, ↓oToList_m, ↓oGet1_m, ↓oUpper_m, ↓oToStr_m, ↓oPop_m, ↓oAppend_m, ↓oPut_m, ↓oSIndex_m, ↓atI_m, ↓getK_m, ↓oSl, ↓oRev, ↓oIsi_T, ↓oMax2I, ↓oMulI, ↓eqI, ↓eqS, ↓eqL, ↓eqT, ↓neI, ↓neS, ↓neL, ↓neT, vw_non, vw_bl, vw_int, vw_str, vw_tup, vw_lst, vw_dic, vw_raw, vw_obj, truD, keyD, itemsOf, mthTy, lenD, seqD, List.map_cons, List.map_nil, List.cons_append, List.nil_append, List.getElem?_cons_zero, List.getElem?_cons_succ, List.getElem?_nil, List.set_cons_zero, List.set_cons_succ, List.length_cons, List.length_nil, ↓reduceIte, Bool.not_true, Bool.not_false, Bool.false_eq_true, true_and, and_true, List.replicate_zero, List.replicate_succ, List.append_nil, ↓sp1_m, ↓spRow_m, ↓spRis_m, ↓spPl_m, ↓spPg_m, ↓spDraw_m, ↓spDrw_m, ↓yes_m, ↓spBetween_m, kt_t, ti, Ord4.iB, at0, at1, cut2, l4, s5, s6, dPairs]
    refine ⟨tt _, one3 heads_eq (by simp) ?_⟩
    simp only [↓sSeq_u, ↓sNext_u, ↓sBreak_u, ↓sCont_u, ↓sDrop_u, ↓sRet_u, ↓sRetN_u, ↓sIf_u, ↓sAsg_u, ↓sPut_u, ↓sFor_u, ↓dC_u, ↓dNil_u, ↓dCons_u, ↓dBlt_u, ↓dOp2_u, ↓dUn_u, ↓dMeth_u, ↓dCall_u, ↓dCallK_u, ↓dNotT_u, ↓dAndT_u, ↓dOrT_u, ↓dIf_u, ↓dTup_u, ↓dLst_u, ↓dLstO_u, ↓dSl_u, ↓dNoPart_u, ↓dRev_u, ↓dYes_u, ↓dDic0_u, ↓dLc_u, ↓dEnum_u, ↓dZip_u, ↓gtName_u, ↓dSortSet_u, ↓dSetK_u, ↓dDisp_u, ↓dVar_m, ↓dTru_m, ↓dAnd_m, ↓dOr_m, ↓dNot_m, ↓dChain_m, ↓dIter_m, ↓dRange1_m, ↓dPart_m, ↓gtCons_m, ↓gtNil_m, ↓gtTup_m, ↓sPar_m, ↓oAdd_m, ↓oInt_m, ↓oNeg_m, ↓oOrd_m, ↓oIx_m, ↓oLen_m, ↓oToInt_m, ↓oToTup_m, ↓oToList_m, ↓oGet1_m, ↓oUpper_m, ↓oToStr_m, ↓oPop_m, ↓oAppend_m, ↓oPut_m, ↓oSIndex_m, ↓atI_m, ↓getK_m, ↓oSl, ↓oRev, ↓oIsi_T, ↓oMax2I, ↓oMulI, ↓eqI, ↓eqS, ↓eqL, ↓eqT, ↓neI, ↓neS, ↓neL, ↓neT, vw_non, vw_bl, vw_int, vw_str, vw_tup, vw_lst, vw_dic, vw_raw, vw_obj, truD, keyD, itemsOf, mthTy, lenD, seqD, List.map_cons, List.map_nil, List.cons_append, List.nil_append, List.getElem?_cons_zero, List.getElem?_cons_succ, List.getElem?_nil, List.set_cons_zero, List.set_cons_succ, List.length_cons, List.length_nil, ↓reduceIte, Bool.not_true, Bool.not_false, Bool.false_eq_true, true_and, and_true, List.replicate_zero, List.replicate_succ, List.append_nil, ↓sp1_m, ↓spRow_m, ↓spRis_m, ↓spPl_m, ↓spPg_m, ↓spDraw_m, ↓spDrw_m, ↓yes_m, ↓spBetween_m, c0 d hd]
    refine ⟨rfl, pr4, disp4, by decide, ?_⟩
    simp only [mkDic, g4u, ↓sSeq_u, ↓sNext_u, ↓sBreak_u, ↓sCont_u, ↓sDrop_u, ↓sRet_u, ↓sRetN_u, ↓sIf_u, ↓sAsg_u, ↓sPut_u, ↓sFor_u, ↓dC_u, ↓dNil_u, ↓dCons_u, ↓dBlt_u, ↓dOp2_u, ↓dUn_u, ↓dMeth_u, ↓dCall_u, ↓dCallK_u, ↓dNotT_u, ↓dAndT_u, ↓dOrT_u, ↓dIf_u, ↓dTup_u, ↓dLst_u, ↓dLstO_u, ↓dSl_u, ↓dNoPart_u, ↓dRev_u, ↓dYes_u, ↓dDic0_u, ↓dLc_u, ↓dEnum_u, ↓dZip_u, ↓gtName_u, ↓dSortSet_u, ↓dSetK_u, ↓dDisp_u, ↓dVar_m, ↓dTru_m, ↓dAnd_m, ↓dOr_m, ↓dNot_m, ↓dChain_m, ↓dIter_m, ↓dRange1_m, ↓dPart_m, ↓gtCons_m, ↓gtNil_m, ↓gtTup_m, ↓sPar_m, ↓oAdd_m, ↓oInt_m, ↓oNeg_m, ↓oOrd_m, ↓oIx_m, ↓oLen_m, ↓oToInt_m, ↓oToTup_m, ↓oToList_m, ↓oGet1_m, ↓oUpper_m, ↓oToStr_m, ↓oPop_m, ↓oAppend_m, ↓oPut_m, ↓oSIndex_m, ↓atI_m, ↓getK_m, ↓oSl, ↓oRev, ↓oIsi_T, ↓oMax2I, ↓oMulI, ↓eqI, ↓eqS, ↓eqL, ↓eqT, ↓neI, ↓neS, ↓neL, ↓neT, vw_non, vw_bl, vw_int, vw_str, vw_tup, vw_lst, vw_dic, vw_raw, vw_obj, truD, keyD, itemsOf, mthTy, lenD, seqD, List.map_cons, List.map_nil, List.cons_append, List.nil_append, List.getElem?_cons_zero, List.getElem?_cons_succ, List.getElem?_nil, List.set_cons_zero, List.set_cons_succ, List.length_cons, List.length_nil, ↓reduceIte, Bool.not_true, Bool.not_false, Bool.false_eq_true, true_and, and_true, List.replicate_zero, List.replicate_succ, List.append_nil, ↓sp1_m, ↓spRow_m, ↓spRis_m, ↓spPl_m, ↓spPg_m, ↓spDraw_m, ↓spDrw_m, ↓yes_m, ↓spBetween_m]
    refine ⟨w2, ?_⟩
    simp only [w1, n3, cutr1, ↓sSeq_u, ↓sNext_u, ↓sBreak_u, ↓sCont_u, ↓sDrop_u, ↓sRet_u, ↓sRetN_u, ↓sIf_u, ↓sAsg_u, ↓sPut_u, ↓sFor_u, ↓dC_u, ↓dNil_u, ↓dCons_u, ↓dBlt_u, ↓dOp2_u, ↓dUn_u, ↓dMeth_u, ↓dCall_u, ↓dCallK_u, ↓dNotT_u, ↓dAndT_u, ↓dOrT_u, ↓dIf_u, ↓dTup_u, ↓dLst_u, ↓dLstO_u, ↓dSl_u, ↓dNoPart_u, ↓dRev_u, ↓dYes_u, ↓dDic0_u, ↓dLc_u, ↓dEnum_u, ↓dZip_u, ↓gtName_u, ↓dSortSet_u, ↓dSetK_u, ↓dDisp_u, ↓dVar_m, ↓dTru_m, ↓dAnd_m, ↓dOr_m, ↓dNot_m, ↓dChain_m, ↓dIter_m, ↓dRange1_m, ↓dPart_m, ↓gtCons_m, ↓gtNil_m, ↓gtTup_m, ↓sPar_m, ↓oAdd_m, ↓oInt_m, ↓oNeg_m, ↓oOrd_m, ↓oIx_m, ↓oLen_m, ↓oToInt_m, ↓oToTup_m, ↓oToList_m, ↓oGet1_m, ↓oUpper_m, ↓oToStr_m, ↓oPop_m, ↓oAppend_m, ↓oPut_m, ↓oSIndex_m, ↓atI_m, ↓getK_m, ↓oSl, ↓oRev, ↓oIsi_T, ↓oMax2I, ↓oMulI, ↓eqI, ↓eqS, ↓eqL, ↓eqT, ↓neI, ↓neS, ↓neL, ↓neT, vw_non, vw_bl, vw_int, vw_str, vw_tup, vw_lst, vw_dic, vw_raw, vw_obj, truD, keyD, itemsOf, mthTy, lenD, seqD, List.map_cons, List.map_nil, List.cons_append, List.nil_append, List.getElem?_cons_zero, List.getElem?_cons_succ, List.getElem?_nil, List.set_cons_zero, List.set_cons_succ, List.length_cons, List.length_nil, ↓reduceIte, Bool.not_true, Bool.not_false, Bool.false_eq_true, true_and, and_true, List.replicate_zero, List.replicate_succ, List.append_nil, ↓sp1_m, ↓spRow_m, ↓spRis_m, ↓spPl_m, ↓spPg_m, ↓spDraw_m, ↓spDrw_m, ↓yes_m, ↓spBetween_m]
    exact ws [w] _ _ _ _ _ (by simp)
/-- rows, in a tuple -/
def rwsT (d : D) : Prop := ∃ rs : List Rw, d = .tup (rs.map Rw.D) ∧ rs.length ≤ 100 ∧ ∀ r ∈ rs, r.ok
theorem dl_are_rows_value {M : St3} {ds : List D} {Q : KD} (h : yes rwsT M ds Q) : td_are_rows_value (yes rwP) (E0 Q) (ds.map some ++ List.replicate 1 none) M := by
  obtain ⟨d, rfl, ⟨rs, rfl, hl, ho⟩, q⟩ := h
  have e1 : isaD (.tup (rs.map Rw.D)) "tuple" = true := rfl
  simp only [td_are_rows_value, ↓sSeq_u, ↓sNext_u, ↓sBreak_u, ↓sCont_u, ↓sDrop_u, ↓sRet_u, ↓sRetN_u, ↓sIf_u, ↓sAsg_u, ↓sPut_u, ↓sFor_u, ↓dC_u, ↓dNil_u, ↓dCons_u, ↓dBlt_u, ↓dOp2_u, ↓dUn_u, ↓dMeth_u, ↓dCall_u, ↓dCallK_u, ↓dNotT_u, ↓dAndT_u, ↓dOrT_u, ↓dIf_u, ↓dTup_u, ↓dLst_u, ↓dLstO_u, ↓dSl_u, ↓dNoPart_u, ↓dRev_u, ↓dYes_u, ↓dDic0_u, ↓dLc_u, ↓dEnum_u, ↓dZip_u, ↓gtName_u, ↓dSortSet_u, ↓dSetK_u, ↓dDisp_u, ↓dVar_m, ↓dTru_m, ↓dAnd_m, ↓dOr_m, ↓dNot_m, ↓dChain_m, ↓dIter_m, ↓dRange1_m, ↓dPart_m, ↓gtCons_m, ↓gtNil_m, ↓gtTup_m, ↓sPar_m, ↓oAdd_m, ↓oInt_m, ↓oNeg_m, ↓oOrd_m, ↓oIx_m, ↓oLen_m, ↓oToInt_m, ↓oToTup_m, ↓oToList_m, ↓oGet1_m, ↓oUpper_m, ↓oToStr_m, ↓oPop_m, ↓oAppend_m, ↓oPut_m, ↓oSIndex_m, ↓atI_m, ↓getK_m, ↓oSl, ↓oRev, ↓oIsi_T, ↓oMax2I, ↓oMulI, ↓eqI, ↓eqS, ↓eqL, ↓eqT, ↓neI, ↓neS, ↓neL, ↓neT, vw_non, vw_bl, vw_int, vw_str, vw_tup, vw_lst, vw_dic, vw_raw, vw_obj, truD, keyD, itemsOf, mthTy, lenD, seqD, List.map_cons, List.map_nil, List.cons_append, List.nil_append, List.getElem?_cons_zero, List.getElem?_cons_succ, List.getElem?_nil, List.set_cons_zero, List.set_cons_succ, List.length_cons, List.length_nil, ↓reduceIte, Bool.not_true, Bool.not_false, Bool.false_eq_true, true_and, and_true, List.replicate_zero, List.replicate_succ, List.append_nil, ↓sp1_m, ↓spRow_m, ↓spRis_m, ↓spPl_m, ↓spPg_m, ↓spDraw_m, ↓spDrw_m, ↓yes_m, ↓spBetween_m, kt_t, e1]
  refine ⟨by simp [tyD], ?_⟩
  refine lcGo_pure (fun _ => true) (fun _ => .bl true) trivial (by simp only [List.length_map, List.length_nil]; exact sz_le (by omega)) (fun y hy Kn Ks k1 k2 => ?_) ?_
  · obtain ⟨r, hr, rfl⟩ := List.mem_map.mp hy
    simp only [↓sSeq_u, ↓sNext_u, ↓sBreak_u, ↓sCont_u, ↓sDrop_u, ↓sRet_u, ↓sRetN_u, ↓sIf_u, ↓sAsg_u, ↓sPut_u, ↓sFor_u, ↓dC_u, ↓dNil_u, ↓dCons_u, ↓dBlt_u, ↓dOp2_u, ↓dUn_u, ↓dMeth_u, ↓dCall_u, ↓dCallK_u, ↓dNotT_u, ↓dAndT_u, ↓dOrT_u, ↓dIf_u, ↓dTup_u, ↓dLst_u, ↓dLstO_u, ↓dSl_u, ↓dNoPart_u, ↓dRev_u, ↓dYes_u, ↓dDic0_u, ↓dLc_u, ↓dEnum_u, ↓dZip_u, ↓gtName_u, ↓dSortSet_u, ↓dSetK_u, ↓dDisp_u, ↓dVar_m, ↓dTru_m, ↓dAnd_m, ↓dOr_m, ↓dNot_m, ↓dChain_m, ↓dIter_m, ↓dRange1_m, ↓dPart_m, ↓gtCons_m, ↓gtNil_m, ↓gtTup_m, ↓sPar_m, ↓oAdd_m, ↓oInt_m, ↓oNeg_m, ↓oOrd_m, ↓oIx_m, ↓oLen_m, ↓oToInt_m, ↓oToTup_m, ↓oToList_m, ↓oGet1_m, ↓oUpper_m, ↓oToStr_m, ↓oPop_m, ↓oAppend_m, ↓oPut_m, ↓oSIndex_m, ↓atI_m, ↓getK_m, ↓oSl, ↓oRev, ↓oIsi_T, ↓oMax2I, ↓oMulI, ↓eqI, ↓eqS, ↓eqL, ↓eqT, ↓neI, ↓neS, ↓neL, ↓neT, vw_non, vw_bl, vw_int, vw_str, vw_tup, vw_lst, vw_dic, vw_raw, vw_obj, truD, keyD, itemsOf, mthTy, lenD, seqD, List.map_cons, List.map_nil, List.cons_append, List.nil_append, List.getElem?_cons_zero, List.getElem?_cons_succ, List.getElem?_nil, List.set_cons_zero, List.set_cons_succ, List.length_cons, List.length_nil, ↓reduceIte, Bool.not_true, Bool.not_false, Bool.false_eq_true, true_and, and_true, List.replicate_zero, List.replicate_succ, List.append_nil, ↓sp1_m, ↓spRow_m, ↓spRis_m, ↓spPl_m, ↓spPg_m, ↓spDraw_m, ↓spDrw_m, ↓yes_m, ↓spBetween_m, wipe3]
    exact ⟨⟨r, rfl, ho r hr⟩, k1 rfl⟩
  · rw [filter_T]
    refine bls (f := fun _ => true) (fun _ _ => rfl) ?_
    rw [List.all_eq_true.mpr fun _ _ => rfl]; exact q
theorem dl_need_rows {M : St3} {ds : List D} {Q : KD} (h : spNeed rwsT M ds Q) : td_need_rows (yes rwsT) (E0 Q) (ds.map some ++ List.replicate 0 none) M := by
  obtain ⟨d, rfl, hd, q⟩ := h
  simp only [td_need_rows, ↓sSeq_u, ↓sNext_u, ↓sBreak_u, ↓sCont_u, ↓sDrop_u, ↓sRet_u, ↓sRetN_u, ↓sIf_u, ↓sAsg_u, ↓sPut_u, ↓sFor_u, ↓dC_u, ↓dNil_u, ↓dCons_u, ↓dBlt_u, ↓dOp2_u, ↓dUn_u, ↓dMeth_u, ↓dCall_u, ↓dCallK_u, ↓dNotT_u, ↓dAndT_u, ↓dOrT_u, ↓dIf_u, ↓dTup_u, ↓dLst_u, ↓dLstO_u, ↓dSl_u, ↓dNoPart_u, ↓dRev_u, ↓dYes_u, ↓dDic0_u, ↓dLc_u, ↓dEnum_u, ↓dZip_u, ↓gtName_u, ↓dSortSet_u, ↓dSetK_u, ↓dDisp_u, ↓dVar_m, ↓dTru_m, ↓dAnd_m, ↓dOr_m, ↓dNot_m, ↓dChain_m, ↓dIter_m, ↓dRange1_m, ↓dPart_m, ↓gtCons_m, ↓gtNil_m, ↓gtTup_m, ↓sPar_m, ↓oAdd_m, ↓oInt_m, ↓oNeg_m, ↓oOrd_m, ↓oIx_m, ↓oLen_m, ↓oToInt_m, ↓oToTup_m, ↓oToList_m, ↓oGet1_m, ↓oUpper_m, ↓oToStr_m, ↓oPop_m, ↓oAppend_m, ↓oPut_m, ↓oSIndex_m, ↓atI_m, ↓getK_m, ↓oSl, ↓oRev, ↓oIsi_T, ↓oMax2I, ↓oMulI, ↓eqI, ↓eqS, ↓eqL, ↓eqT, ↓neI, ↓neS, ↓neL, ↓neT, vw_non, vw_bl, vw_int, vw_str, vw_tup, vw_lst, vw_dic, vw_raw, vw_obj, truD, keyD, itemsOf, mthTy, lenD, seqD, List.map_cons, List.map_nil, List.cons_append, List.nil_append, List.getElem?_cons_zero, List.getElem?_cons_succ, List.getElem?_nil, List.set_cons_zero, List.set_cons_succ, List.length_cons, List.length_nil, ↓reduceIte, Bool.not_true, Bool.not_false, Bool.false_eq_true, true_and, and_true, List.replicate_zero, List.replicate_succ, List.append_nil, ↓sp1_m, ↓spRow_m, ↓spRis_m, ↓spPl_m, ↓spPg_m, ↓spDraw_m, ↓spDrw_m, ↓yes_m, ↓spBetween_m]
  exact ⟨hd, q⟩
end L3.K55
namespace L3.K55
open PySem PySem.Spec PyProof.Rows L2
/-! ### pages told by what stands on them -/
structure KsR (m : Int) (a : Nat) (f : Str → Option Int) (S : List Str) : Prop where
  nd : S.Nodup
  me : ∀ k, k ∈ S ↔ (f k).isSome = true
  w : ∀ k ∈ S, k ∈ words8 ∧ plS k m = (a : Nat)
  v : ∀ k, wv (f k)
def nI (f : Str → Option Int) (k : Str) : Int := (f k).getD 0
theorem oD_nI {f : Str → Option Int} {k : Str} (h : (f k).isSome = true) : oD (f k) = .int (nI f k) := by
  unfold nI
  cases e : f k with
  | none => rw [e] at h; cases h
  | some v => rfl
abbrev prI (f : Str → Option Int) (k : Str) : D := prC (nI f) k
def PgR (m : Int) (a : Nat) (p : Pg) (d : D) : Prop := ∃ S, KsR m a p.2 S ∧ (0 ≤ p.1 ∧ p.1 ≤ 1000) ∧ d = .tup [.int p.1, .tup ((sortS S).map (prI p.2))]
def PgsR (m : Nat) (σ : Sg) (ds : List D) : Prop := ds.length = m ∧ ∀ a d, ds[a]? = some d → PgR m a (σ a) d
section
variable {m : Int} {a : Nat} {f : Str → Option Int} {S T : List Str} {p : Pg} {d d' : D}
theorem KsR.uniq (h : KsR m a f S) (k : KsR m a f T) : sortS S = sortS T := sortS_congr h.nd k.nd fun x => (h.me x).trans (k.me x).symm
theorem PgR.uniq (h : PgR m a p d) (k : PgR m a p d') : d = d' := by
  obtain ⟨S, h1, _, rfl⟩ := h
  obtain ⟨T, k1, _, rfl⟩ := k
  rw [h1.uniq k1]
theorem words8_len : words8.length = 8 := rfl
theorem nodup_le : ∀ {A B : List Str}, A.Nodup → (∀ x ∈ A, x ∈ B) → A.length ≤ B.length
  | [], _, _, _ => Nat.zero_le _
  | x :: A, B, n, h => by
    have hx := h x (by simp)
    have hn := List.nodup_cons.mp n
    have := nodup_le (A := A) (B := B.erase x) hn.2 fun y hy => (List.mem_erase_of_ne (fun e => hn.1 (by rw [← e]; exact hy))).mpr (h y (by simp [hy]))
    rw [List.length_erase_of_mem hx] at this
    have := List.length_pos_of_mem hx
    simp only [List.length_cons]; omega
theorem KsR.len (h : KsR m a f S) : S.length ≤ 8 := nodup_le h.nd fun x hx => (h.w x hx).1
theorem KsR.wd (h : KsR m a f S) {k : Str} (hk : k ∈ S) : wordS k = true := wl8 (h.w k hk).1
/-- a key is given a worth, or loses it -/
theorem KsR.put (h : KsR m a f S) {k : Str} {w : Option Int} (hk : k ∈ words8) (hp : plS k m = (a : Nat)) (hw : wv w) (nT : T.Nodup) (hT : ∀ y, y ∈ T ↔ y ∈ S ∨ y = k) : KsR m a (upd1 f k w) (T.filter fun y => (upd1 f k w y).isSome) := by
  refine ⟨nT.filter _, fun y => ?_, fun y hy => ?_, fun y => ?_⟩
  · rw [List.mem_filter, hT]
    refine ⟨fun z => z.2, fun z => ⟨?_, z⟩⟩
    unfold upd1 at z
    by_cases e : y = k
    · exact .inr e
    · rw [if_neg e] at z; exact .inl ((h.me y).mpr z)
  · rcases (hT y).mp (List.mem_filter.mp hy).1 with z | rfl
    · exact h.w y z
    · exact ⟨hk, hp⟩
  · unfold upd1
    split
    · exact hw
    · exact h.v y
theorem p0_R : KsR m a (fun _ => none) [] := ⟨List.nodup_nil, fun k => by simp, fun k h => by simp at h, fun k v e => by cases e⟩
end
theorem PgsR.uniq {m : Nat} {σ : Sg} {ds ds' : List D} (h : PgsR m σ ds) (k : PgsR m σ ds') : ds = ds' := by
  refine List.ext_getElem (h.1.trans k.1.symm) fun i h1 h2 => ?_
  exact PgR.uniq (h.2 i _ (List.getElem?_eq_getElem h1)) (k.2 i _ (List.getElem?_eq_getElem h2))
theorem PgsR.congr {m : Nat} {σ τ : Sg} {ds : List D} (h : PgsR m σ ds) (e : ∀ a, a < m → σ a = τ a) : PgsR m τ ds := ⟨h.1, fun a d hd => by
  have := (List.getElem?_eq_some_iff.mp hd).1
  rw [← e a (by rw [← h.1]; exact this)]
  exact h.2 a d hd⟩
/-! such pages are pages -/
theorem pr_pl {f : Str → Int} {k : Str} (h : wordS k = true) : plV (prC f k) = true := by
  have := word_len h
  simp only [prC, plV, plVs, Bool.and_eq_true, decide_eq_true_eq, List.length_cons, List.length_nil, and_true]
  omega
theorem PgR.pl {m : Int} {a : Nat} {p : Pg} {d : D} (h : PgR m a p d) : plV d = true ∧ pgB a m d = true := by
  obtain ⟨S, h1, hl, rfl⟩ := h
  have hk : List.map keyStr ((sortS S).map (prI p.2)) = sortS S := by
    rw [List.map_map]; exact (List.map_congr_left fun x _ => rfl).trans (List.map_id _)
  have h8 := h1.len
  constructor
  · simp only [plV, plVs, Bool.and_eq_true, decide_eq_true_eq, List.length_cons, List.length_nil, List.length_map, sortS_len, plVs_all]
    refine ⟨by omega, trivial, ⟨by omega, fun d hd => ?_⟩, trivial⟩
    obtain ⟨k, hk, rfl⟩ := List.mem_map.mp hd
    exact pr_pl (h1.wd (sortS_mem.mp hk))
  · simp only [pgB, isC, hk, Bool.and_eq_true, decide_eq_true_eq]
    refine ⟨hl.1, List.all_eq_true.mpr fun q hq => ?_, (ris_iff _).mpr (sortS_lt h1.nd), List.all_eq_true.mpr fun x hx => ?_⟩
    · obtain ⟨k, hk, rfl⟩ := List.mem_map.mp hq
      simp only [prC, prB, isW, isI, Bool.and_true]
      exact h1.wd (sortS_mem.mp hk)
    · simpa using (h1.w x (sortS_mem.mp hx)).2
theorem PgsR.pgs {m : Nat} {σ : Sg} {ds : List D} (h : PgsR m σ ds) (h1 : 1 ≤ m) (h8 : m ≤ 8) : pgsP (.tup ds) := by
  obtain ⟨hl, hp⟩ := h
  constructor
  · simp only [plP, plV, Bool.and_eq_true, decide_eq_true_eq, plVs_all]
    refine ⟨by omega, fun d hd => ?_⟩
    obtain ⟨i, hi⟩ := List.getElem?_of_mem hd
    exact (hp i d hi).pl.1
  · simp only [pagesB, Bool.and_eq_true, decide_eq_true_eq]
    refine ⟨by omega, by omega, List.all_eq_true.mpr fun y hy => ?_⟩
    unfold enumD at hy
    obtain ⟨i, hi, rfl⟩ := List.mem_mapIdx.mp hy
    simp only [pgE]
    have := (hp i _ (List.getElem?_eq_getElem hi)).pl.2
    rw [hl]; exact this
end L3.K55
namespace L3
open PySem PySem.Spec PyProof.Rows L2
theorem in2 {neg : Bool} {M : St3} {P : KD} {x a b : Str} : oIn neg M [.str x, .tup [.str a, .str b]] P = P (.bl (neg != (decide (a = x) || decide (b = x)))) M := by
  have := oIn_strs (neg := neg) (M := M) (P := P) (x := x) (xs := [a, b])
  simpa using this
theorem pairsD_str {c : Str → D} : ∀ ks : List Str, pairsD (ksK ks) (valsC ks c) = ks.map fun k => .tup [.str k, c k]
  | [] => rfl
  | k :: r => by
    have := pairsD_str (c := c) r
    unfold ksK valsC at *
    simp only [List.map_cons, pairsD, kD, this]
theorem cut_set {xs : List D} {r : Int} {p : D} (h0 : 0 ≤ r) (h1 : r < xs.length) : cutD xs none (some r) ++ [p] ++ cutD xs (some (r + 1)) none = xs.set r.toNat p := by
  have e1 : HT.sIx xs.length xs.length (some r) = min r.toNat xs.length := if_neg (by omega)
  have e2 : HT.sIx xs.length 0 (some (r + 1)) = min (r + 1).toNat xs.length := if_neg (by omega)
  have e3 : HT.sIx xs.length 0 none = 0 := rfl
  have e4 : HT.sIx xs.length xs.length none = xs.length := rfl
  unfold cutD
  rw [e1, e2, e3, e4]
  have hl : r.toNat < xs.length := by omega
  rw [List.set_eq_take_append_cons_drop, if_pos hl]
  have e5 : min (r + 1).toNat xs.length = r.toNat + 1 := by omega
  have e6 : min r.toNat xs.length = r.toNat := by omega
  rw [e5, e6, List.drop_zero, Nat.sub_zero, List.append_assoc, List.singleton_append]
  congr 2
  exact List.take_of_length_le (by rw [List.length_drop]; omega)
theorem cut_mem {xs : List D} {lo hi : Option Int} {d : D} (h : d ∈ cutD xs lo hi) : d ∈ xs := List.mem_of_mem_drop (List.mem_of_mem_take h)
theorem cut_len (xs : List D) (lo hi : Option Int) : (cutD xs lo hi).length ≤ xs.length := by
  unfold cutD; rw [List.length_take, List.length_drop]; omega
theorem keysOk_strs {ks : List Str} (h : ∀ k ∈ ks, k.length ≤ 3000) : keysOk (ksK ks) := fun x hx => by
  obtain ⟨y, hy, e⟩ := List.mem_map.mp hx
  cases e
  have := h x hy
  rw [sizeLine_eq]; omega
end L3
namespace L3.K55
open PySem PySem.Spec PyProof.Rows L2
theorem touchD {r : Rw} {k : Str} {w : Option Int} (h : r.touch = some (k, w)) (ho : r.ok) : k ∈ words8 ∧ wv w ∧ ∃ (xs : List D) (hd : Str), r.D = .tup xs ∧ (hd = "write" ∨ hd = "undo") ∧ atI xs 0 = some (.str hd) ∧ atI xs 2 = some (.str k) ∧ atI xs (-1) = some (oD w) := by
  cases r <;> simp only [Rw.touch, reduceCtorEq, Option.some.injEq, Prod.mk.injEq] at h
  · obtain ⟨rfl, rfl⟩ := h
    exact ⟨ho.2.1, ho.2.2.2, _, _, rfl, .inl rfl, rfl, rfl, rfl⟩
  · obtain ⟨rfl, rfl⟩ := h
    exact ⟨ho.2.1, ho.2.2, _, _, rfl, .inr rfl, rfl, rfl, rfl⟩
theorem noTouchD {r : Rw} (h : r.touch = none) : ∃ (xs : List D) (hd : Str), r.D = .tup xs ∧ (decide (("write" : Str) = hd) || decide (("undo" : Str) = hd)) = false ∧ atI xs 0 = some (.str hd) := by
  cases r <;> simp only [Rw.touch, reduceCtorEq] at h
  · exact ⟨_, _, rfl, by decide, rfl⟩
  · exact ⟨_, _, rfl, by decide, rfl⟩
  · exact ⟨_, _, rfl, by decide, rfl⟩
  · exact ⟨_, _, rfl, by decide, rfl⟩
theorem step_no {m i : Int} {r : Rw} {σ : Sg} (h : r.touch = none) : stepS m i r σ = σ := funext fun a => by
  unfold stepS stepP; rw [h]
theorem headIn {hd : Str} (h : hd = "write" ∨ hd = "undo") : (decide (("write" : Str) = hd) || decide (("undo" : Str) = hd)) = true := by
  rcases h with rfl | rfl <;> simp
def spDone : DSp := fun M ds Q => ∃ (m : Nat) (σ : Sg) (pgs : List D) (i : Int) (r : Rw), ds = [.tup pgs, .int i, r.D] ∧ (PgsR m σ pgs ∧ (1 ≤ m ∧ m ≤ 8) ∧ (1 ≤ i ∧ i ≤ 1000) ∧ r.ok) ∧ ∀ pgs' X, PgsR m (stepS m i r σ) pgs' → Q (.tup pgs') (M ++ X)
/-- the pages with another one at a place -/
theorem PgsR.set {m : Nat} {σ : Sg} {pgs : List D} {k : Str} {w : Option Int} {i : Int} {r : Rw} {d : D} (h : PgsR m σ pgs) (hm : 0 < m) (ht : r.touch = some (k, w)) (hl : (σ (plS k m).toNat).1 < i) (hd : PgR m (plS k m).toNat (i, upd1 (σ (plS k m).toNat).2 k w) d) : PgsR m (stepS m i r σ) (pgs.set (plS k m).toNat d) := by
  have hpn := plS_nat k (m := m) (by omega)
  refine ⟨by rw [List.length_set]; exact h.1, fun a e he => ?_⟩
  rw [List.getElem?_set] at he
  split at he
  · rename_i ha
    subst ha
    split at he
    · cases he
      unfold stepS stepP
      rw [ht]
      simp only
      rw [if_pos ⟨hpn.symm, hl⟩]
      exact hd
    · cases he
  · rename_i ha
    unfold stepS stepP
    rw [ht]
    simp only
    rw [if_neg (fun z => ha (by have := z.1; omega))]
    exact h.2 a e he
theorem PgsR.same {m : Nat} {σ : Sg} {pgs : List D} {k : Str} {w : Option Int} {i : Int} {r : Rw} (h : PgsR m σ pgs) (hm : 0 < m) (ht : r.touch = some (k, w)) (hl : ¬ (σ (plS k m).toNat).1 < i) : PgsR m (stepS m i r σ) pgs := by
  have hpn := plS_nat k (m := m) (by omega)
  refine h.congr fun a _ => ?_
  unfold stepS stepP
  rw [ht]
  simp only
  rw [if_neg]
  rintro ⟨z1, z2⟩
  have : a = (plS k m).toNat := by omega
  rw [this] at z2
  exact hl z2
theorem dl_done_one {M : St3} {ds : List D} {Q : KD} (h : spDone M ds Q) : td_done_one spPl (E0 Q) (ds.map some ++ List.replicate 8 none) M := by
  obtain ⟨m, σ, pgs, i, r, rfl, ⟨hP, ⟨m1, m8⟩, ⟨i1, i2⟩, ho⟩, q⟩ := h
  have z : ∀ k, k ≤ 3000 → k ≤ sizeLine := fun k h => sz_le (by omega)
  have hlen := hP.1
  cases ht : r.touch with
  | none =>
    obtain ⟨xs, hd, e, hn, a0⟩ := noTouchD ht
    rw [e]
    simp only [td_done_one, ↓sSeq_u, ↓sNext_u, ↓sBreak_u, ↓sCont_u, ↓sDrop_u, ↓sRet_u, ↓sRetN_u, ↓sIf_u, ↓sAsg_u, ↓sPut_u, ↓sFor_u, ↓dC_u, ↓dNil_u, ↓dCons_u, ↓dBlt_u, ↓dOp2_u, ↓dUn_u, ↓dMeth_u, ↓dCall_u, ↓dCallK_u, ↓dNotT_u, ↓dAndT_u, ↓dOrT_u, ↓dIf_u, ↓dTup_u, ↓dLst_u, ↓dLstO_u, ↓dSl_u, ↓dNoPart_u, ↓dRev_u, ↓dYes_u, ↓dDic0_u, ↓dLc_u, ↓dEnum_u, ↓dZip_u, ↓gtName_u, ↓dSortSet_u, ↓dSetK_u, ↓dDisp_u, ↓dVar_m, ↓dTru_m, ↓dAnd_m, ↓dOr_m, ↓dNot_m, ↓dChain_m, ↓dIter_m, ↓dRange1_m, ↓dPart_m, ↓gtCons_m, ↓gtNil_m, ↓gtTup_m, ↓oAdd_m, ↓oInt_m, ↓oNeg_m, ↓oOrd_m, ↓oIx_m, ↓oLen_m, ↓oToInt_m, ↓oToTup_m, ↓oToList_m, ↓oGet1_m, ↓oUpper_m, ↓oToStr_m, ↓oPop_m, ↓oAppend_m, ↓oPut_m, ↓oSIndex_m, ↓atI_m, ↓getK_m, ↓oSl, ↓oRev, ↓oIsi_T, ↓oMax2I, ↓oMulI, ↓eqI, ↓eqS, ↓eqL, ↓eqT, ↓neI, ↓neS, ↓neL, ↓neT, vw_non, vw_bl, vw_int, vw_str, vw_tup, vw_lst, vw_dic, vw_raw, vw_obj, truD, keyD, itemsOf, mthTy, lenD, seqD, List.map_cons, List.map_nil, List.cons_append, List.nil_append, List.getElem?_cons_zero, List.getElem?_cons_succ, List.getElem?_nil, List.set_cons_zero, List.set_cons_succ, List.length_cons, List.length_nil, ↓reduceIte, Bool.not_true, Bool.not_false, Bool.false_eq_true, true_and, and_true, List.replicate_zero, List.replicate_succ, List.append_nil, ↓sp1_m, ↓spRow_m, ↓spRis_m, ↓spPl_m, ↓spPg_m, ↓spDraw_m, ↓spDrw_m, ↓yes_m, ↓spBetween_m, ↓spNeed_m, ↓in2, a0, hn]
    have := q pgs [] (by rw [step_no ht]; exact hP)
    rw [List.append_nil] at this
    exact ⟨z _ (by decide), this⟩
  | some kw =>
    obtain ⟨k, w⟩ := kw
    obtain ⟨hk, hw, xs, hd, e, hh, a0, a2, am⟩ := touchD ht ho
    have hin := headIn hh
    have wk := wl8 hk
    have hm0 : (0 : Int) < m := by omega
    have hpn := plS_nat k hm0
    have p0 : 0 ≤ plS k m := by omega
    have p1 : plS k m < m := Int.emod_lt_of_pos _ hm0
    have hlt : (plS k m).toNat < pgs.length := by omega
    have hat : atI pgs (plS k m) = some pgs[(plS k m).toNat] := by
      unfold atI ixN
      rw [if_pos p0, if_pos (by rw [hlen]; exact p1)]
      simp [hlt]
    obtain ⟨S, hS, hl, hpg⟩ := hP.2 _ _ (List.getElem?_eq_getElem hlt)
    rw [hpg] at hat
    rw [e]
    simp only [td_done_one, ↓sSeq_u, ↓sNext_u, ↓sBreak_u, ↓sCont_u, ↓sDrop_u, ↓sRet_u, ↓sRetN_u, ↓sIf_u, ↓sAsg_u, ↓sFor_u, ↓dC_u, ↓dNil_u, ↓dCons_u, ↓dBlt_u, ↓dOp2_u, ↓dUn_u, ↓dMeth_u, ↓dCall_u, ↓dCallK_u, ↓dNotT_u, ↓dAndT_u, ↓dOrT_u, ↓dIf_u, ↓dTup_u, ↓dLst_u, ↓dLstO_u, ↓dSl_u, ↓dNoPart_u, ↓dRev_u, ↓dYes_u, ↓dDic0_u, ↓dLc_u, ↓dEnum_u, ↓dZip_u, ↓gtName_u, ↓dSortSet_u, ↓dSetK_u, ↓dDisp_u, ↓dVar_m, ↓dTru_m, ↓dAnd_m, ↓dOr_m, ↓dNot_m, ↓dChain_m, ↓dIter_m, ↓dRange1_m, ↓dPart_m, ↓gtCons_m, ↓gtNil_m, ↓gtTup_m, ↓sPar_m, ↓oAdd_m, ↓oInt_m, ↓oNeg_m, ↓oOrd_m, ↓oIx_m, ↓oLen_m, ↓oToInt_m, ↓oToTup_m, ↓oToList_m, ↓oGet1_m, ↓oUpper_m, ↓oToStr_m, ↓oPop_m, ↓oAppend_m, ↓oPut_m, ↓oSIndex_m, ↓atI_m, ↓getK_m, ↓oSl, ↓oRev, ↓oIsi_T, ↓oMax2I, ↓oMulI, ↓eqI, ↓eqS, ↓eqL, ↓eqT, ↓neI, ↓neS, ↓neL, ↓neT, vw_non, vw_bl, vw_int, vw_str, vw_tup, vw_lst, vw_dic, vw_raw, vw_obj, truD, keyD, itemsOf, mthTy, lenD, seqD, List.map_cons, List.map_nil, List.cons_append, List.nil_append, List.getElem?_cons_zero, List.getElem?_cons_succ, List.getElem?_nil, List.set_cons_zero, List.set_cons_succ, List.length_cons, List.length_nil, ↓reduceIte, Bool.not_true, Bool.not_false, Bool.false_eq_true, true_and, and_true, List.replicate_zero, List.replicate_succ, List.append_nil, ↓sp1_m, ↓spRow_m, ↓spRis_m, ↓spPl_m, ↓spPg_m, ↓spDraw_m, ↓spDrw_m, ↓yes_m, ↓spBetween_m, ↓spNeed_m, ↓in2, a0, a2, am, hin, hlen, hat]
    refine ⟨z _ (by decide), word_ok wk, hm0, ?_⟩
    by_cases hge : i ≤ (σ (plS k m).toNat).1
    · have h1 : Ord4.ge.iB (σ (plS k m).toNat).1 i = true := by simpa [Ord4.iB] using hge
      rw [h1, if_pos rfl]
      have := q pgs [] (hP.same m1 ht (by omega))
      rw [List.append_nil] at this
      exact this
    have h1 : Ord4.ge.iB (σ (plS k m).toNat).1 i = false := by simp [Ord4.iB]; omega
    rw [h1, if_neg Bool.false_ne_true]
    have pr := pairsC (fun y => D.int (nI (σ (plS k m).toNat).2 y)) (sortS S)
    have mg := mergeC (fun y => D.int (nI (σ (plS k m).toNat).2 y)) (sortS S) [] (by rw [List.nil_append]; exact sortS_nd hS.nd)
    rw [List.nil_append] at mg
    obtain ⟨T, eT1, eT2, nT, mT, lT⟩ := putC (x := k) (c := fun y => D.int (nI (σ (plS k m).toNat).2 y)) (d := oD w) (sortS_nd hS.nd)
    refine .inl ⟨_, _, _, rfl, rfl, pr, ?_⟩
    rw [show mergeD [] [] _ = _ from mg]
    simp only [mkDic, ↓reduceIte]
    have g1 : (M ++ [MO.dic (ksK (sortS S)) (valsC (sortS S) fun y => D.int (nI (σ (plS k m).toNat).2 y))])[M.length]? = some (.dic (ksK (sortS S)) (valsC (sortS S) fun y => D.int (nI (σ (plS k m).toNat).2 y))) := by simp
    simp only [↓sSeq_u, ↓sNext_u, ↓sBreak_u, ↓sCont_u, ↓sDrop_u, ↓sRet_u, ↓sRetN_u, ↓sIf_u, ↓sPut_u, ↓sFor_u, ↓dC_u, ↓dNil_u, ↓dCons_u, ↓dBlt_u, ↓dOp2_u, ↓dUn_u, ↓dMeth_u, ↓dCall_u, ↓dCallK_u, ↓dNotT_u, ↓dAndT_u, ↓dOrT_u, ↓dIf_u, ↓dTup_u, ↓dLst_u, ↓dLstO_u, ↓dSl_u, ↓dNoPart_u, ↓dRev_u, ↓dYes_u, ↓dDic0_u, ↓dLc_u, ↓dEnum_u, ↓dZip_u, ↓gtName_u, ↓dSortSet_u, ↓dSetK_u, ↓dDisp_u, ↓dVar_m, ↓dTru_m, ↓dAnd_m, ↓dOr_m, ↓dNot_m, ↓dChain_m, ↓dIter_m, ↓dRange1_m, ↓dPart_m, ↓gtCons_m, ↓gtNil_m, ↓gtTup_m, ↓sPar_m, ↓oAdd_m, ↓oInt_m, ↓oNeg_m, ↓oOrd_m, ↓oIx_m, ↓oLen_m, ↓oToInt_m, ↓oToTup_m, ↓oToList_m, ↓oGet1_m, ↓oUpper_m, ↓oToStr_m, ↓oPop_m, ↓oAppend_m, ↓oPut_m, ↓oSIndex_m, ↓atI_m, ↓getK_m, ↓oSl, ↓oRev, ↓oIsi_T, ↓oMax2I, ↓oMulI, ↓eqI, ↓eqS, ↓eqL, ↓eqT, ↓neI, ↓neS, ↓neL, ↓neT, vw_non, vw_bl, vw_int, vw_str, vw_tup, vw_lst, vw_dic, vw_raw, vw_obj, truD, keyD, itemsOf, mthTy, lenD, seqD, List.map_cons, List.map_nil, List.cons_append, List.nil_append, List.getElem?_cons_zero, List.getElem?_cons_succ, List.getElem?_nil, List.set_cons_zero, List.set_cons_succ, List.length_cons, List.length_nil, ↓reduceIte, Bool.not_true, Bool.not_false, Bool.false_eq_true, true_and, and_true, List.replicate_zero, List.replicate_succ, List.append_nil, ↓sp1_m, ↓spRow_m, ↓spRis_m, ↓spPl_m, ↓spPg_m, ↓spDraw_m, ↓spDrw_m, ↓yes_m, ↓spBetween_m, ↓spNeed_m, ↓in2, a2, g1, eT1, eT2]
    have h8 := hS.len
    refine ⟨by simp only [ksK, List.length_map, sortS_len]; exact sz_lt (by omega), ?_⟩
    have hS' : ∀ y, y ∈ T ↔ y ∈ S ∨ y = k := fun y => by rw [mT, sortS_mem]
    have hK := hS.put (w := w) (T := T) hk (by omega) hw nT hS'
    have g2 : (M ++ [MO.dic (ksK T) (valsC T (setC (fun y => D.int (nI (σ (plS k m).toNat).2 y)) k (oD w)))])[M.length]? = some (.dic (ksK T) (valsC T (setC (fun y => D.int (nI (σ (plS k m).toNat).2 y)) k (oD w)))) := by simp
    have s1 : ∀ x y : MO, (M ++ [x]).set M.length y = M ++ [y] := fun x y => by simp
    rw [s1]
    have hwl : ∀ y ∈ T, y.length ≤ 3000 := fun y hy => by
      rcases (hS' y).mp hy with h | rfl
      · have := word_len (hS.wd h); omega
      · have := word_len wk; omega
    have ec : ∀ y ∈ T, setC (fun y => D.int (nI (σ (plS k m).toNat).2 y)) k (oD w) y = oD (upd1 (σ (plS k m).toNat).2 k w y) := fun y hy => by
      unfold setC upd1
      by_cases h : y = k
      · rw [if_pos h, if_pos h]
      · rw [if_neg h, if_neg h]
        rcases (hS' y).mp hy with z | z
        · exact (oD_nI ((hS.me y).mp z)).symm
        · exact absurd z h
    simp only [dItems, dicOf, g2, ↓sNext_u, ↓sBreak_u, ↓sCont_u, ↓sDrop_u, ↓sRet_u, ↓sRetN_u, ↓sIf_u, ↓sAsg_u, ↓sPut_u, ↓sFor_u, ↓dC_u, ↓dNil_u, ↓dCons_u, ↓dBlt_u, ↓dOp2_u, ↓dUn_u, ↓dMeth_u, ↓dCall_u, ↓dCallK_u, ↓dNotT_u, ↓dAndT_u, ↓dOrT_u, ↓dIf_u, ↓dTup_u, ↓dLst_u, ↓dLstO_u, ↓dSl_u, ↓dNoPart_u, ↓dRev_u, ↓dYes_u, ↓dDic0_u, ↓dLc_u, ↓dEnum_u, ↓dZip_u, ↓gtName_u, ↓dSortSet_u, ↓dSetK_u, ↓dDisp_u, ↓dVar_m, ↓dTru_m, ↓dAnd_m, ↓dOr_m, ↓dNot_m, ↓dChain_m, ↓dIter_m, ↓dRange1_m, ↓dPart_m, ↓gtCons_m, ↓gtNil_m, ↓gtTup_m, ↓sPar_m, ↓oAdd_m, ↓oInt_m, ↓oNeg_m, ↓oOrd_m, ↓oIx_m, ↓oLen_m, ↓oToInt_m, ↓oToTup_m, ↓oToList_m, ↓oGet1_m, ↓oUpper_m, ↓oToStr_m, ↓oPop_m, ↓oAppend_m, ↓oPut_m, ↓oSIndex_m, ↓atI_m, ↓getK_m, ↓oSl, ↓oRev, ↓oIsi_T, ↓oMax2I, ↓oMulI, ↓eqI, ↓eqS, ↓eqL, ↓eqT, ↓neI, ↓neS, ↓neL, ↓neT, vw_non, vw_bl, vw_int, vw_str, vw_tup, vw_lst, vw_dic, vw_raw, vw_obj, truD, keyD, itemsOf, mthTy, lenD, seqD, List.map_cons, List.map_nil, List.cons_append, List.nil_append, List.getElem?_cons_zero, List.getElem?_cons_succ, List.getElem?_nil, List.set_cons_zero, List.set_cons_succ, List.length_cons, List.length_nil, ↓reduceIte, Bool.not_true, Bool.not_false, Bool.false_eq_true, true_and, and_true, List.replicate_zero, List.replicate_succ, List.append_nil, ↓sp1_m, ↓spRow_m, ↓spRis_m, ↓spPl_m, ↓spPg_m, ↓spDraw_m, ↓spDrw_m, ↓yes_m, ↓spBetween_m, ↓spNeed_m, ↓in2]
    refine ⟨_, rfl, keysOk_strs hwl, ?_⟩
    simp only [pairsD_str]
    refine lcGo_pure (fun y => match y with | .tup [.str x, _] => (upd1 (σ (plS k m).toNat).2 k w x).isSome | _ => false) id trivial (by simp only [List.length_map, List.length_nil]; exact z _ (by rw [sortS_len] at lT; omega)) (fun y hy Kn Ks k1 k2 => ?_) ?_
    · obtain ⟨x, hx, rfl⟩ := List.mem_map.mp hy
      have eo := ec x hx
      simp only [↓sSeq_u, ↓sNext_u, ↓sBreak_u, ↓sCont_u, ↓sDrop_u, ↓sRet_u, ↓sRetN_u, ↓sIf_u, ↓sAsg_u, ↓sPut_u, ↓sFor_u, ↓dC_u, ↓dNil_u, ↓dCons_u, ↓dBlt_u, ↓dOp2_u, ↓dUn_u, ↓dMeth_u, ↓dCall_u, ↓dCallK_u, ↓dNotT_u, ↓dAndT_u, ↓dOrT_u, ↓dIf_u, ↓dTup_u, ↓dLst_u, ↓dLstO_u, ↓dSl_u, ↓dNoPart_u, ↓dRev_u, ↓dYes_u, ↓dDic0_u, ↓dLc_u, ↓dEnum_u, ↓dZip_u, ↓gtName_u, ↓dSortSet_u, ↓dSetK_u, ↓dDisp_u, ↓dVar_m, ↓dTru_m, ↓dAnd_m, ↓dOr_m, ↓dNot_m, ↓dChain_m, ↓dIter_m, ↓dRange1_m, ↓dPart_m, ↓gtCons_m, ↓gtNil_m, ↓gtTup_m, ↓sPar_m, ↓oAdd_m, ↓oInt_m, ↓oNeg_m, ↓oOrd_m, ↓oIx_m, ↓oLen_m, ↓oToInt_m, ↓oToTup_m, ↓oToList_m, ↓oGet1_m, ↓oUpper_m, ↓oToStr_m, ↓oPop_m, ↓oAppend_m, ↓oPut_m, ↓oSIndex_m, ↓atI_m, ↓getK_m, ↓oSl, ↓oRev, ↓oIsi_T, ↓oMax2I, ↓oMulI, ↓eqI, ↓eqS, ↓eqL, ↓eqT, ↓neI, ↓neS, ↓neL, ↓neT, vw_non, vw_bl, vw_int, vw_str, vw_tup, vw_lst, vw_dic, vw_raw, vw_obj, truD, keyD, itemsOf, mthTy, lenD, seqD, List.map_cons, List.map_nil, List.cons_append, List.nil_append, List.getElem?_cons_zero, List.getElem?_cons_succ, List.getElem?_nil, List.set_cons_zero, List.set_cons_succ, List.length_cons, List.length_nil, ↓reduceIte, Bool.not_true, Bool.not_false, Bool.false_eq_true, true_and, and_true, List.replicate_zero, List.replicate_succ, List.append_nil, ↓sp1_m, ↓spRow_m, ↓spRis_m, ↓spPl_m, ↓spPg_m, ↓spDraw_m, ↓spDrw_m, ↓yes_m, ↓spBetween_m, ↓spNeed_m, ↓in2, wipe3, eo]
      rw [oIsN_m (oD_raw _)]
      cases ew : upd1 (σ (plS k m).toNat).2 k w x with
      | none =>
        simp only [oD, isNonD, ↓sSeq_u, ↓sNext_u, ↓sBreak_u, ↓sCont_u, ↓sDrop_u, ↓sRet_u, ↓sRetN_u, ↓sIf_u, ↓sAsg_u, ↓sPut_u, ↓sFor_u, ↓dC_u, ↓dNil_u, ↓dCons_u, ↓dBlt_u, ↓dOp2_u, ↓dUn_u, ↓dMeth_u, ↓dCall_u, ↓dCallK_u, ↓dNotT_u, ↓dAndT_u, ↓dOrT_u, ↓dIf_u, ↓dTup_u, ↓dLst_u, ↓dLstO_u, ↓dSl_u, ↓dNoPart_u, ↓dRev_u, ↓dYes_u, ↓dDic0_u, ↓dLc_u, ↓dEnum_u, ↓dZip_u, ↓gtName_u, ↓dSortSet_u, ↓dSetK_u, ↓dDisp_u, ↓dVar_m, ↓dTru_m, ↓dAnd_m, ↓dOr_m, ↓dNot_m, ↓dChain_m, ↓dIter_m, ↓dRange1_m, ↓dPart_m, ↓gtCons_m, ↓gtNil_m, ↓gtTup_m, ↓sPar_m, ↓oAdd_m, ↓oInt_m, ↓oNeg_m, ↓oOrd_m, ↓oIx_m, ↓oLen_m, ↓oToInt_m, ↓oToTup_m, ↓oToList_m, ↓oGet1_m, ↓oUpper_m, ↓oToStr_m, ↓oPop_m, ↓oAppend_m, ↓oPut_m, ↓oSIndex_m, ↓atI_m, ↓getK_m, ↓oSl, ↓oRev, ↓oIsi_T, ↓oMax2I, ↓oMulI, ↓eqI, ↓eqS, ↓eqL, ↓eqT, ↓neI, ↓neS, ↓neL, ↓neT, vw_non, vw_bl, vw_int, vw_str, vw_tup, vw_lst, vw_dic, vw_raw, vw_obj, truD, keyD, itemsOf, mthTy, lenD, seqD, List.map_cons, List.map_nil, List.cons_append, List.nil_append, List.getElem?_cons_zero, List.getElem?_cons_succ, List.getElem?_nil, List.set_cons_zero, List.set_cons_succ, List.length_cons, List.length_nil, ↓reduceIte, Bool.not_true, Bool.not_false, Bool.false_eq_true, true_and, and_true, List.replicate_zero, List.replicate_succ, List.append_nil, ↓sp1_m, ↓spRow_m, ↓spRis_m, ↓spPl_m, ↓spPg_m, ↓spDraw_m, ↓spDrw_m, ↓yes_m, ↓spBetween_m, ↓spNeed_m, ↓in2]
        exact k2 (by simp [ew])
      | some v =>
        simp only [oD, isNonD, ↓sSeq_u, ↓sNext_u, ↓sBreak_u, ↓sCont_u, ↓sDrop_u, ↓sRet_u, ↓sRetN_u, ↓sIf_u, ↓sAsg_u, ↓sPut_u, ↓sFor_u, ↓dC_u, ↓dNil_u, ↓dCons_u, ↓dBlt_u, ↓dOp2_u, ↓dUn_u, ↓dMeth_u, ↓dCall_u, ↓dCallK_u, ↓dNotT_u, ↓dAndT_u, ↓dOrT_u, ↓dIf_u, ↓dTup_u, ↓dLst_u, ↓dLstO_u, ↓dSl_u, ↓dNoPart_u, ↓dRev_u, ↓dYes_u, ↓dDic0_u, ↓dLc_u, ↓dEnum_u, ↓dZip_u, ↓gtName_u, ↓dSortSet_u, ↓dSetK_u, ↓dDisp_u, ↓dVar_m, ↓dTru_m, ↓dAnd_m, ↓dOr_m, ↓dNot_m, ↓dChain_m, ↓dIter_m, ↓dRange1_m, ↓dPart_m, ↓gtCons_m, ↓gtNil_m, ↓gtTup_m, ↓sPar_m, ↓oAdd_m, ↓oInt_m, ↓oNeg_m, ↓oOrd_m, ↓oIx_m, ↓oLen_m, ↓oToInt_m, ↓oToTup_m, ↓oToList_m, ↓oGet1_m, ↓oUpper_m, ↓oToStr_m, ↓oPop_m, ↓oAppend_m, ↓oPut_m, ↓oSIndex_m, ↓atI_m, ↓getK_m, ↓oSl, ↓oRev, ↓oIsi_T, ↓oMax2I, ↓oMulI, ↓eqI, ↓eqS, ↓eqL, ↓eqT, ↓neI, ↓neS, ↓neL, ↓neT, vw_non, vw_bl, vw_int, vw_str, vw_tup, vw_lst, vw_dic, vw_raw, vw_obj, truD, keyD, itemsOf, mthTy, lenD, seqD, List.map_cons, List.map_nil, List.cons_append, List.nil_append, List.getElem?_cons_zero, List.getElem?_cons_succ, List.getElem?_nil, List.set_cons_zero, List.set_cons_succ, List.length_cons, List.length_nil, ↓reduceIte, Bool.not_true, Bool.not_false, Bool.false_eq_true, true_and, and_true, List.replicate_zero, List.replicate_succ, List.append_nil, ↓sp1_m, ↓spRow_m, ↓spRis_m, ↓spPl_m, ↓spPg_m, ↓spDraw_m, ↓spDrw_m, ↓yes_m, ↓spBetween_m, ↓spNeed_m, ↓in2]
        have := k1 (by simp [ew])
        rw [eo, ew] at this
        exact ⟨z _ (by decide), this⟩
    have ef : List.map id (List.filter (fun y => match y with | .tup [.str x, _] => (upd1 (σ (plS k m).toNat).2 k w x).isSome | _ => false) (T.map fun y => D.tup [.str y, setC (fun y => D.int (nI (σ (plS k m).toNat).2 y)) k (oD w) y])) = (T.filter fun y => (upd1 (σ (plS k m).toNat).2 k w y).isSome).map (prI (upd1 (σ (plS k m).toNat).2 k w)) := by
      rw [List.map_id, List.filter_map]
      refine (List.map_congr_left fun y hy => ?_)
      obtain ⟨hy1, hy2⟩ := List.mem_filter.mp hy
      show D.tup [.str y, _] = D.tup [.str y, .int (nI (upd1 (σ (plS k m).toNat).2 k w) y)]
      rw [ec y hy1, oD_nI hy2]
    rw [ef]
    simp only [↓reduceIte, List.nil_append]
    refine ⟨_, _, rfl, .inl rfl, prC_sortC _ _, ?_⟩
    rw [sort_prC hK.nd]
    simp only [mkLst, ↓reduceIte, ↓sSeq_u, ↓sNext_u, ↓sBreak_u, ↓sCont_u, ↓sDrop_u, ↓sRet_u, ↓sRetN_u, ↓sIf_u, ↓sAsg_u, ↓sPut_u, ↓sFor_u, ↓dC_u, ↓dNil_u, ↓dCons_u, ↓dBlt_u, ↓dOp2_u, ↓dUn_u, ↓dMeth_u, ↓dCall_u, ↓dCallK_u, ↓dNotT_u, ↓dAndT_u, ↓dOrT_u, ↓dIf_u, ↓dTup_u, ↓dLst_u, ↓dLstO_u, ↓dSl_u, ↓dNoPart_u, ↓dRev_u, ↓dYes_u, ↓dDic0_u, ↓dLc_u, ↓dEnum_u, ↓dZip_u, ↓gtName_u, ↓dSortSet_u, ↓dSetK_u, ↓dDisp_u, ↓dVar_m, ↓dTru_m, ↓dAnd_m, ↓dOr_m, ↓dNot_m, ↓dChain_m, ↓dIter_m, ↓dRange1_m, ↓dPart_m, ↓gtCons_m, ↓gtNil_m, ↓gtTup_m, ↓sPar_m, ↓oAdd_m, ↓oInt_m, ↓oNeg_m, ↓oOrd_m, ↓oIx_m, ↓oLen_m, ↓oToInt_m, ↓oToTup_m, ↓oToList_m, ↓oGet1_m, ↓oUpper_m, ↓oToStr_m, ↓oPop_m, ↓oAppend_m, ↓oPut_m, ↓oSIndex_m, ↓atI_m, ↓getK_m, ↓oSl, ↓oRev, ↓oIsi_T, ↓oMax2I, ↓oMulI, ↓eqI, ↓eqS, ↓eqL, ↓eqT, ↓neI, ↓neS, ↓neL, ↓neT, vw_non, vw_bl, vw_int, vw_str, vw_tup, vw_lst, vw_dic, vw_raw, vw_obj, truD, keyD, itemsOf, mthTy, lenD, seqD, List.map_cons, List.map_nil, List.cons_append, List.nil_append, List.getElem?_cons_zero, List.getElem?_cons_succ, List.getElem?_nil, List.set_cons_zero, List.set_cons_succ, List.length_cons, List.length_nil, ↓reduceIte, Bool.not_true, Bool.not_false, Bool.false_eq_true, true_and, and_true, List.replicate_zero, List.replicate_succ, List.append_nil, ↓sp1_m, ↓spRow_m, ↓spRis_m, ↓spPl_m, ↓spPg_m, ↓spDraw_m, ↓spDrw_m, ↓yes_m, ↓spBetween_m, ↓spNeed_m, ↓in2, List.length_append]
    have c := cut_len pgs none (some (plS k m))
    have c2 := cut_len pgs (some (plS k m + 1)) none
    refine ⟨z _ (by decide), z _ (by decide), z _ (by omega), z _ (by omega), ?_⟩
    rw [cut_set p0 (by omega), s1]
    refine q _ _ (hP.set m1 ht (by omega) ⟨_, hK, ⟨by show 0 ≤ i; omega, by show i ≤ 1000; omega⟩, rfl⟩)
theorem dl_done_all_aux : True := trivial
/-- all rows of a log -/
def spDoneAll : DSp := fun M ds Q => ∃ (m : Nat) (σ : Sg) (pgs : List D) (rs : List Rw), ds = [.tup pgs, .tup (rs.map Rw.D)] ∧ (PgsR m σ pgs ∧ (1 ≤ m ∧ m ≤ 8) ∧ rs.length ≤ 100 ∧ ∀ r ∈ rs, r.ok) ∧ ∀ pgs' X, PgsR m (foldS m 1 rs σ) pgs' → Q (.tup pgs') (M ++ X)
theorem foldS_take {m : Int} {rs : List Rw} {i : Nat} {r : Rw} {σ : Sg} (h : rs[i]? = some r) : foldS m 1 (rs.take (i + 1)) σ = stepS m (i + 1) r (foldS m 1 (rs.take i) σ) := funext fun a => by
  have hl := (List.getElem?_eq_some_iff.mp h).1
  have e : rs.take (i + 1) = rs.take i ++ [r] := by rw [List.take_succ, h]; rfl
  unfold foldS stepS
  rw [e, foldP_app]
  simp only [foldP, List.length_take]
  congr 1
  have : min i rs.length = i := by omega
  rw [this]; omega
theorem dl_done_all {M : St3} {ds : List D} {Q : KD} (h : spDoneAll M ds Q) : td_done_all spDone (E0 Q) (ds.map some ++ List.replicate 2 none) M := by
  obtain ⟨m, σ, pgs, rs, rfl, ⟨hP, hm, hl, ho⟩, q⟩ := h
  simp only [td_done_all, ↓sSeq_u, ↓sNext_u, ↓sBreak_u, ↓sCont_u, ↓sDrop_u, ↓sRet_u, ↓sRetN_u, ↓sIf_u, ↓sAsg_u, ↓sPut_u, ↓sFor_u, ↓dC_u, ↓dNil_u, ↓dCons_u, ↓dBlt_u, ↓dOp2_u, ↓dUn_u, ↓dMeth_u, ↓dCall_u, ↓dCallK_u, ↓dNotT_u, ↓dAndT_u, ↓dOrT_u, ↓dIf_u, ↓dTup_u, ↓dLst_u, ↓dLstO_u, ↓dSl_u, ↓dNoPart_u, ↓dRev_u, ↓dYes_u, ↓dDic0_u, ↓dLc_u, ↓dEnum_u, ↓dZip_u, ↓gtName_u, ↓dSortSet_u, ↓dSetK_u, ↓dDisp_u, ↓dVar_m, ↓dTru_m, ↓dAnd_m, ↓dOr_m, ↓dNot_m, ↓dChain_m, ↓dIter_m, ↓dRange1_m, ↓dPart_m, ↓gtCons_m, ↓gtNil_m, ↓gtTup_m, ↓sPar_m, ↓oAdd_m, ↓oInt_m, ↓oNeg_m, ↓oOrd_m, ↓oIx_m, ↓oLen_m, ↓oToInt_m, ↓oToTup_m, ↓oToList_m, ↓oGet1_m, ↓oUpper_m, ↓oToStr_m, ↓oPop_m, ↓oAppend_m, ↓oPut_m, ↓oSIndex_m, ↓atI_m, ↓getK_m, ↓oSl, ↓oRev, ↓oIsi_T, ↓oMax2I, ↓oMulI, ↓eqI, ↓eqS, ↓eqL, ↓eqT, ↓neI, ↓neS, ↓neL, ↓neT, vw_non, vw_bl, vw_int, vw_str, vw_tup, vw_lst, vw_dic, vw_raw, vw_obj, truD, keyD, itemsOf, mthTy, lenD, seqD, List.map_cons, List.map_nil, List.cons_append, List.nil_append, List.getElem?_cons_zero, List.getElem?_cons_succ, List.getElem?_nil, List.set_cons_zero, List.set_cons_succ, List.length_cons, List.length_nil, ↓reduceIte, Bool.not_true, Bool.not_false, Bool.false_eq_true, true_and, and_true, List.replicate_zero, List.replicate_succ, List.append_nil, ↓sp1_m, ↓spRow_m, ↓spRis_m, ↓spPl_m, ↓spPg_m, ↓spDraw_m, ↓spDrw_m, ↓yes_m, ↓spBetween_m, ↓spNeed_m, ↓in2]
  refine .inr ⟨_, rfl, ?_⟩
  refine forGo_inv (fun i env M' => ∃ (pg : List D) (X : St3) (a b : Option D), env = [some (.tup pg), some (.tup (rs.map Rw.D)), a, b] ∧ PgsR m (foldS m 1 (rs.take i) σ) pg ∧ M' = M ++ X) ?_ ?_ ⟨pgs, [], none, none, rfl, hP, by simp⟩
  · rintro i x env M' hx ⟨pg, X, a, b, rfl, hp, rfl⟩ N hN
    unfold enumD at hx
    rw [List.getElem?_mapIdx, List.getElem?_map] at hx
    cases hr : rs[i]? with
    | none => rw [hr] at hx; cases hx
    | some r =>
      rw [hr] at hx
      simp only [Option.map_some, Option.some.injEq] at hx
      subst hx
      have hi := (List.getElem?_eq_some_iff.mp hr).1
      refine ⟨trivial, ?_⟩
      simp only [↓sSeq_u, ↓sNext_u, ↓sBreak_u, ↓sCont_u, ↓sDrop_u, ↓sRet_u, ↓sRetN_u, ↓sIf_u, ↓sAsg_u, ↓sPut_u, ↓sFor_u, ↓dC_u, ↓dNil_u, ↓dCons_u, ↓dBlt_u, ↓dOp2_u, ↓dUn_u, ↓dMeth_u, ↓dCall_u, ↓dCallK_u, ↓dNotT_u, ↓dAndT_u, ↓dOrT_u, ↓dIf_u, ↓dTup_u, ↓dLst_u, ↓dLstO_u, ↓dSl_u, ↓dNoPart_u, ↓dRev_u, ↓dYes_u, ↓dDic0_u, ↓dLc_u, ↓dEnum_u, ↓dZip_u, ↓gtName_u, ↓dSortSet_u, ↓dSetK_u, ↓dDisp_u, ↓dVar_m, ↓dTru_m, ↓dAnd_m, ↓dOr_m, ↓dNot_m, ↓dChain_m, ↓dIter_m, ↓dRange1_m, ↓dPart_m, ↓gtCons_m, ↓gtNil_m, ↓gtTup_m, ↓sPar_m, ↓oAdd_m, ↓oInt_m, ↓oNeg_m, ↓oOrd_m, ↓oIx_m, ↓oLen_m, ↓oToInt_m, ↓oToTup_m, ↓oToList_m, ↓oGet1_m, ↓oUpper_m, ↓oToStr_m, ↓oPop_m, ↓oAppend_m, ↓oPut_m, ↓oSIndex_m, ↓atI_m, ↓getK_m, ↓oSl, ↓oRev, ↓oIsi_T, ↓oMax2I, ↓oMulI, ↓eqI, ↓eqS, ↓eqL, ↓eqT, ↓neI, ↓neS, ↓neL, ↓neT, vw_non, vw_bl, vw_int, vw_str, vw_tup, vw_lst, vw_dic, vw_raw, vw_obj, truD, keyD, itemsOf, mthTy, lenD, seqD, List.map_cons, List.map_nil, List.cons_append, List.nil_append, List.getElem?_cons_zero, List.getElem?_cons_succ, List.getElem?_nil, List.set_cons_zero, List.set_cons_succ, List.length_cons, List.length_nil, ↓reduceIte, Bool.not_true, Bool.not_false, Bool.false_eq_true, true_and, and_true, List.replicate_zero, List.replicate_succ, List.append_nil, ↓sp1_m, ↓spRow_m, ↓spRis_m, ↓spPl_m, ↓spPg_m, ↓spDraw_m, ↓spDrw_m, ↓yes_m, ↓spBetween_m, ↓spNeed_m, ↓in2]
      refine ⟨m, _, pg, _, r, rfl, ⟨hp, hm, ⟨by omega, by omega⟩, ho r (List.mem_of_getElem? hr)⟩, fun pgs' X' h' => ?_⟩
      simp only [↓sSeq_u, ↓sNext_u, ↓sBreak_u, ↓sCont_u, ↓sDrop_u, ↓sRet_u, ↓sRetN_u, ↓sIf_u, ↓sAsg_u, ↓sPut_u, ↓sFor_u, ↓dC_u, ↓dNil_u, ↓dCons_u, ↓dBlt_u, ↓dOp2_u, ↓dUn_u, ↓dMeth_u, ↓dCall_u, ↓dCallK_u, ↓dNotT_u, ↓dAndT_u, ↓dOrT_u, ↓dIf_u, ↓dTup_u, ↓dLst_u, ↓dLstO_u, ↓dSl_u, ↓dNoPart_u, ↓dRev_u, ↓dYes_u, ↓dDic0_u, ↓dLc_u, ↓dEnum_u, ↓dZip_u, ↓gtName_u, ↓dSortSet_u, ↓dSetK_u, ↓dDisp_u, ↓dVar_m, ↓dTru_m, ↓dAnd_m, ↓dOr_m, ↓dNot_m, ↓dChain_m, ↓dIter_m, ↓dRange1_m, ↓dPart_m, ↓gtCons_m, ↓gtNil_m, ↓gtTup_m, ↓sPar_m, ↓oAdd_m, ↓oInt_m, ↓oNeg_m, ↓oOrd_m, ↓oIx_m, ↓oLen_m, ↓oToInt_m, ↓oToTup_m, ↓oToList_m, ↓oGet1_m, ↓oUpper_m, ↓oToStr_m, ↓oPop_m, ↓oAppend_m, ↓oPut_m, ↓oSIndex_m, ↓atI_m, ↓getK_m, ↓oSl, ↓oRev, ↓oIsi_T, ↓oMax2I, ↓oMulI, ↓eqI, ↓eqS, ↓eqL, ↓eqT, ↓neI, ↓neS, ↓neL, ↓neT, vw_non, vw_bl, vw_int, vw_str, vw_tup, vw_lst, vw_dic, vw_raw, vw_obj, truD, keyD, itemsOf, mthTy, lenD, seqD, List.map_cons, List.map_nil, List.cons_append, List.nil_append, List.getElem?_cons_zero, List.getElem?_cons_succ, List.getElem?_nil, List.set_cons_zero, List.set_cons_succ, List.length_cons, List.length_nil, ↓reduceIte, Bool.not_true, Bool.not_false, Bool.false_eq_true, true_and, and_true, List.replicate_zero, List.replicate_succ, List.append_nil, ↓sp1_m, ↓spRow_m, ↓spRis_m, ↓spPl_m, ↓spPg_m, ↓spDraw_m, ↓spDrw_m, ↓yes_m, ↓spBetween_m, ↓spNeed_m, ↓in2]
      refine hN _ _ ⟨pgs', X ++ X', _, _, rfl, ?_, by rw [List.append_assoc]⟩
      rw [foldS_take hr]; exact h'
  · rintro env M' ⟨pg, X, a, b, rfl, hp, rfl⟩
    refine ⟨trivial, ?_⟩
    simp only [↓sSeq_u, ↓sNext_u, ↓sBreak_u, ↓sCont_u, ↓sDrop_u, ↓sRet_u, ↓sRetN_u, ↓sIf_u, ↓sAsg_u, ↓sPut_u, ↓sFor_u, ↓dC_u, ↓dNil_u, ↓dCons_u, ↓dBlt_u, ↓dOp2_u, ↓dUn_u, ↓dMeth_u, ↓dCall_u, ↓dCallK_u, ↓dNotT_u, ↓dAndT_u, ↓dOrT_u, ↓dIf_u, ↓dTup_u, ↓dLst_u, ↓dLstO_u, ↓dSl_u, ↓dNoPart_u, ↓dRev_u, ↓dYes_u, ↓dDic0_u, ↓dLc_u, ↓dEnum_u, ↓dZip_u, ↓gtName_u, ↓dSortSet_u, ↓dSetK_u, ↓dDisp_u, ↓dVar_m, ↓dTru_m, ↓dAnd_m, ↓dOr_m, ↓dNot_m, ↓dChain_m, ↓dIter_m, ↓dRange1_m, ↓dPart_m, ↓gtCons_m, ↓gtNil_m, ↓gtTup_m, ↓sPar_m, ↓oAdd_m, ↓oInt_m, ↓oNeg_m, ↓oOrd_m, ↓oIx_m, ↓oLen_m, ↓oToInt_m, ↓oToTup_m, ↓oToList_m, ↓oGet1_m, ↓oUpper_m, ↓oToStr_m, ↓oPop_m, ↓oAppend_m, ↓oPut_m, ↓oSIndex_m, ↓atI_m, ↓getK_m, ↓oSl, ↓oRev, ↓oIsi_T, ↓oMax2I, ↓oMulI, ↓eqI, ↓eqS, ↓eqL, ↓eqT, ↓neI, ↓neS, ↓neL, ↓neT, vw_non, vw_bl, vw_int, vw_str, vw_tup, vw_lst, vw_dic, vw_raw, vw_obj, truD, keyD, itemsOf, mthTy, lenD, seqD, List.map_cons, List.map_nil, List.cons_append, List.nil_append, List.getElem?_cons_zero, List.getElem?_cons_succ, List.getElem?_nil, List.set_cons_zero, List.set_cons_succ, List.length_cons, List.length_nil, ↓reduceIte, Bool.not_true, Bool.not_false, Bool.false_eq_true, true_and, and_true, List.replicate_zero, List.replicate_succ, List.append_nil, ↓sp1_m, ↓spRow_m, ↓spRis_m, ↓spPl_m, ↓spPg_m, ↓spDraw_m, ↓spDrw_m, ↓yes_m, ↓spBetween_m, ↓spNeed_m, ↓in2]
    refine q pg X ?_
    have e : (enumD (rs.map Rw.D)).length = rs.length := by simp [enumD]
    rw [e, List.take_length] at hp
    exact hp
/-! the worths of all pages -/
def wAll (m : Int) (σ : Sg) : Str → Option Int := fun k => (σ (plS k m).toNat).2 k
/-- worths in order -/
def WR (g : Str → Option Int) (d : D) : Prop := ∃ T : List Str, T.Nodup ∧ (∀ k, k ∈ T ↔ (g k).isSome = true) ∧ (∀ k ∈ T, k ∈ words8) ∧ (∀ k, wv (g k)) ∧ d = .tup ((sortS T).map (prI g))
theorem WR.uniq {g : Str → Option Int} {d d' : D} (h : WR g d) (k : WR g d') : d = d' := by
  obtain ⟨S, h1, h2, _, _, rfl⟩ := h
  obtain ⟨T, k1, k2, _, _, rfl⟩ := k
  rw [sortS_congr h1 k1 fun x => (h2 x).trans (k2 x).symm]
def inner : D → List D | .tup [_, .tup ps] => ps | _ => []
theorem PgR.inner {m : Int} {a : Nat} {p : Pg} {d : D} (h : PgR m a p d) : ∃ S, KsR m a p.2 S ∧ inner d = (sortS S).map (prI p.2) ∧ (inner d).length ≤ 8 := by
  obtain ⟨S, h1, _, rfl⟩ := h
  exact ⟨S, h1, rfl, by simp only [K55.inner, List.length_map, sortS_len]; exact h1.len⟩
theorem all_inner {m : Int} {σ : Sg} (hm : 0 < m) : ∀ (ds : List D) (b : Nat), (∀ i d, ds[i]? = some d → PgR m (b + i) (σ (b + i)) d) → ((b + ds.length : Nat) : Int) ≤ m →
    ∃ L : List Str, ds.flatMap inner = L.map (prI (wAll m σ)) ∧ L.Nodup ∧ (∀ k ∈ L, k ∈ words8) ∧ ∀ k, k ∈ L ↔ (b ≤ (plS k m).toNat ∧ (plS k m).toNat < b + ds.length) ∧ (wAll m σ k).isSome = true
  | [], b, _, _ => ⟨[], rfl, List.nodup_nil, fun k h => by simp at h, fun k => by simp; omega⟩
  | d :: ds, b, h, hb => by
    obtain ⟨S, hS, e1, _⟩ := (h 0 d rfl).inner
    obtain ⟨L, e2, n2, w2, m2⟩ := all_inner (σ := σ) hm ds (b + 1) (fun i e he => by have := h (i + 1) e (by simpa using he); rw [show b + 1 + i = b + (i + 1) by omega]; exact this) (by simp at hb ⊢; omega)
    have ew : ∀ k ∈ S, wAll m σ k = (σ b).2 k ∧ (plS k m).toNat = b := fun k hk => by
      have := (hS.w k hk).2
      simp only [Nat.add_zero] at this
      have e : (plS k m).toNat = b := by omega
      exact ⟨by unfold wAll; rw [e], e⟩
    refine ⟨sortS S ++ L, ?_, ?_, ?_, ?_⟩
    · rw [List.flatMap_cons, e1, e2, List.map_append]
      congr 1
      refine List.map_congr_left fun k hk => ?_
      have := (ew k (sortS_mem.mp hk)).1
      simp only [prI, prC, nI, this, Nat.add_zero]
    · rw [List.nodup_append]
      refine ⟨sortS_nd hS.nd, n2, fun x hx y hy e => ?_⟩
      subst e
      have h1 := (ew x (sortS_mem.mp hx)).2
      have h2 := ((m2 x).mp hy).1.1
      omega
    · intro k hk
      rcases List.mem_append.mp hk with hk | hk
      · exact (hS.w k (sortS_mem.mp hk)).1
      · exact w2 k hk
    · intro k
      rw [List.mem_append, sortS_mem, hS.me, m2]
      simp only [Nat.add_zero, List.length_cons]
      constructor
      · rintro (h1 | ⟨⟨h1, h2⟩, h3⟩)
        · obtain ⟨e1, e2⟩ := ew k ((hS.me k).mpr (by simpa using h1))
          exact ⟨⟨by omega, by omega⟩, by rw [e1]; simpa using h1⟩
        · exact ⟨⟨by omega, by omega⟩, h3⟩
      · rintro ⟨⟨h1, h2⟩, h3⟩
        by_cases hb : (plS k m).toNat = b
        · left
          unfold wAll at h3
          rw [hb] at h3; exact h3
        · exact .inr ⟨⟨by omega, by omega⟩, h3⟩
theorem wAll_v {m : Nat} {σ : Sg} {pgs : List D} (hm : 0 < m) (h : PgsR m σ pgs) (k : Str) : wv (wAll m σ k) := by
  have hp := plS_nat k (m := m) (by omega)
  have h1 : plS k m < m := Int.emod_lt_of_pos _ (by omega)
  have hl : (plS k m).toNat < pgs.length := by rw [h.1]; omega
  obtain ⟨S, hS, _⟩ := h.2 _ _ (List.getElem?_eq_getElem hl)
  exact hS.v k
def spWorths : DSp := fun M ds Q => ∃ (m : Nat) (σ : Sg) (pgs : List D), ds = [.tup pgs] ∧ (PgsR m σ pgs ∧ 1 ≤ m ∧ m ≤ 8) ∧ ∀ d, WR (wAll m σ) d → Q d M
end L3.K55
namespace L3
open PySem PySem.Spec PyProof.Rows L2
theorem lcGo2_pure {g : TDG} {tt : TDT} {ti1 : TDI} {g1 : TDG} {tt1 : TDT} {te : TD} {vs1 : List Nat} {chk : St3 → Prop} {env0 : Env3} {P : List D → St3 → Prop} {M : St3} (f : D → List D) (hc : chk M) : ∀ {xs acc : List D}, acc.length + (xs.flatMap f).length ≤ sizeLine →
    (∀ x ∈ xs, ∀ (ac : List D) (Kn : St3 → Prop) (Ks : List D → St3 → Prop), ac.length + (f x).length ≤ sizeLine → Ks (ac ++ f x) M → g x env0 M fun env1 M1 => tt env1 M1 fun b M2 => if b = true then ti1 env1 M2 fun items1 chk1 M3 => lcGo g1 tt1 te chk1 (wipe3 env1 vs1) Ks items1 ac M3 else Kn M2) →
    P (acc ++ xs.flatMap f) M → lcGo2 g tt ti1 g1 tt1 te vs1 chk env0 P xs acc M
  | [], acc, hl, h, q => ⟨hc, by simpa using q⟩
  | x :: xs, acc, hl, h, q => by
    simp only [List.flatMap_cons, List.length_append] at hl
    refine ⟨hc, h x (by simp) acc _ _ (by omega) ?_⟩
    refine lcGo2_pure f hc (by simp only [List.length_append]; omega) (fun y hy => h y (by simp [hy])) ?_
    rw [List.append_assoc]
    simpa using q
theorem oMulT_m {M : St3} {P : KD} {xs : List D} {k : Int} : oMul M [.tup xs, .int k] P = ((xs ≠ [] ∧ 1 ≤ k ∧ k ≤ 1000 ∧ xs.length ≤ 1000) ∧ P (.tup (List.replicate k.toNat xs).flatten) M) := by
  unfold oMul oMulT oMulS
  simp [oInt_m, ex2]
theorem rep1 (x : D) : ∀ n : Nat, (List.replicate n [x]).flatten = List.replicate n x
  | 0 => rfl
  | n + 1 => by rw [List.replicate_succ, List.flatten_cons, rep1 x n]; rfl
theorem flat_le (f : D → List D) (k : Nat) : ∀ xs : List D, (∀ x ∈ xs, (f x).length ≤ k) → (xs.flatMap f).length ≤ xs.length * k
  | [], _ => by simp
  | x :: r, h => by
    have h1 := h x (by simp)
    have h2 := flat_le f k r fun y hy => h y (by simp [hy])
    simp only [List.flatMap_cons, List.length_append, List.length_cons, Nat.add_mul]
    omega
end L3
namespace L3.K55
open PySem PySem.Spec PyProof.Rows L2
theorem dl_all_worths {M : St3} {ds : List D} {Q : KD} (h : spWorths M ds Q) : td_all_worths (E0 Q) (ds.map some ++ List.replicate 3 none) M := by
  obtain ⟨m, σ, pgs, rfl, ⟨hP, m1, m8⟩, q⟩ := h
  have z : ∀ k, k ≤ 3000 → k ≤ sizeLine := fun k h => sz_le (by omega)
  have hin : ∀ p ∈ pgs, (inner p).length ≤ 8 := fun p hp => by
    obtain ⟨i, hi⟩ := List.getElem?_of_mem hp
    obtain ⟨_, _, _, h⟩ := (hP.2 i p hi).inner
    exact h
  have hfl := flat_le inner 8 pgs hin
  rw [hP.1] at hfl
  simp only [td_all_worths, dLc2, ↓sSeq_u, ↓sNext_u, ↓sBreak_u, ↓sCont_u, ↓sDrop_u, ↓sRet_u, ↓sRetN_u, ↓sIf_u, ↓sAsg_u, ↓sPut_u, ↓sFor_u, ↓dC_u, ↓dNil_u, ↓dCons_u, ↓dBlt_u, ↓dOp2_u, ↓dUn_u, ↓dMeth_u, ↓dCall_u, ↓dCallK_u, ↓dNotT_u, ↓dAndT_u, ↓dOrT_u, ↓dIf_u, ↓dTup_u, ↓dLst_u, ↓dLstO_u, ↓dSl_u, ↓dNoPart_u, ↓dRev_u, ↓dYes_u, ↓dDic0_u, ↓dLc_u, ↓dEnum_u, ↓dZip_u, ↓gtName_u, ↓dSortSet_u, ↓dSetK_u, ↓dDisp_u, ↓dVar_m, ↓dTru_m, ↓dAnd_m, ↓dOr_m, ↓dNot_m, ↓dChain_m, ↓dIter_m, ↓dRange1_m, ↓dPart_m, ↓gtCons_m, ↓gtNil_m, ↓gtTup_m, ↓sPar_m, ↓oAdd_m, ↓oInt_m, ↓oNeg_m, ↓oOrd_m, ↓oIx_m, ↓oLen_m, ↓oToInt_m, ↓oToTup_m, ↓oToList_m, ↓oGet1_m, ↓oUpper_m, ↓oToStr_m, ↓oPop_m, ↓oAppend_m, ↓oPut_m, ↓oSIndex_m, ↓atI_m, ↓getK_m, ↓oSl, ↓oRev, ↓oIsi_T, ↓oMax2I, ↓oMulI, ↓eqI, ↓eqS, ↓eqL, ↓eqT, ↓neI, ↓neS, ↓neL, ↓neT, vw_non, vw_bl, vw_int, vw_str, vw_tup, vw_lst, vw_dic, vw_raw, vw_obj, truD, keyD, itemsOf, mthTy, lenD, seqD, List.map_cons, List.map_nil, List.cons_append, List.nil_append, List.getElem?_cons_zero, List.getElem?_cons_succ, List.getElem?_nil, List.set_cons_zero, List.set_cons_succ, List.length_cons, List.length_nil, ↓reduceIte, Bool.not_true, Bool.not_false, Bool.false_eq_true, true_and, and_true, List.replicate_zero, List.replicate_succ, List.append_nil, ↓sp1_m, ↓spRow_m, ↓spRis_m, ↓spPl_m, ↓spPg_m, ↓spDraw_m, ↓spDrw_m, ↓yes_m, ↓spBetween_m, ↓spNeed_m, ↓in2, ↓oMulT_m]
  refine lcGo2_pure inner trivial (z _ (by simp only [List.length_nil]; omega)) (fun y hy ac Kn Ks hz k1 => ?_) ?_
  · obtain ⟨i, hi⟩ := List.getElem?_of_mem hy
    obtain ⟨S, _, _, rfl⟩ := hP.2 i y hi
    simp only [↓sSeq_u, ↓sNext_u, ↓sBreak_u, ↓sCont_u, ↓sDrop_u, ↓sRet_u, ↓sRetN_u, ↓sIf_u, ↓sAsg_u, ↓sPut_u, ↓sFor_u, ↓dC_u, ↓dNil_u, ↓dCons_u, ↓dBlt_u, ↓dOp2_u, ↓dUn_u, ↓dMeth_u, ↓dCall_u, ↓dCallK_u, ↓dNotT_u, ↓dAndT_u, ↓dOrT_u, ↓dIf_u, ↓dTup_u, ↓dLst_u, ↓dLstO_u, ↓dSl_u, ↓dNoPart_u, ↓dRev_u, ↓dYes_u, ↓dDic0_u, ↓dLc_u, ↓dEnum_u, ↓dZip_u, ↓gtName_u, ↓dSortSet_u, ↓dSetK_u, ↓dDisp_u, ↓dVar_m, ↓dTru_m, ↓dAnd_m, ↓dOr_m, ↓dNot_m, ↓dChain_m, ↓dIter_m, ↓dRange1_m, ↓dPart_m, ↓gtCons_m, ↓gtNil_m, ↓gtTup_m, ↓sPar_m, ↓oAdd_m, ↓oInt_m, ↓oNeg_m, ↓oOrd_m, ↓oIx_m, ↓oLen_m, ↓oToInt_m, ↓oToTup_m, ↓oToList_m, ↓oGet1_m, ↓oUpper_m, ↓oToStr_m, ↓oPop_m, ↓oAppend_m, ↓oPut_m, ↓oSIndex_m, ↓atI_m, ↓getK_m, ↓oSl, ↓oRev, ↓oIsi_T, ↓oMax2I, ↓oMulI, ↓eqI, ↓eqS, ↓eqL, ↓eqT, ↓neI, ↓neS, ↓neL, ↓neT, vw_non, vw_bl, vw_int, vw_str, vw_tup, vw_lst, vw_dic, vw_raw, vw_obj, truD, keyD, itemsOf, mthTy, lenD, seqD, List.map_cons, List.map_nil, List.cons_append, List.nil_append, List.getElem?_cons_zero, List.getElem?_cons_succ, List.getElem?_nil, List.set_cons_zero, List.set_cons_succ, List.length_cons, List.length_nil, ↓reduceIte, Bool.not_true, Bool.not_false, Bool.false_eq_true, true_and, and_true, List.replicate_zero, List.replicate_succ, List.append_nil, ↓sp1_m, ↓spRow_m, ↓spRis_m, ↓spPl_m, ↓spPg_m, ↓spDraw_m, ↓spDrw_m, ↓yes_m, ↓spBetween_m, ↓spNeed_m, ↓in2, ↓oMulT_m, wipe3]
    refine lcGo_pure (fun _ => true) id trivial (by simpa [inner] using hz) (fun y hy Kn Ks k1 k2 => ?_) ?_
    · simp only [↓sSeq_u, ↓sNext_u, ↓sBreak_u, ↓sCont_u, ↓sDrop_u, ↓sRet_u, ↓sRetN_u, ↓sIf_u, ↓sAsg_u, ↓sPut_u, ↓sFor_u, ↓dC_u, ↓dNil_u, ↓dCons_u, ↓dBlt_u, ↓dOp2_u, ↓dUn_u, ↓dMeth_u, ↓dCall_u, ↓dCallK_u, ↓dNotT_u, ↓dAndT_u, ↓dOrT_u, ↓dIf_u, ↓dTup_u, ↓dLst_u, ↓dLstO_u, ↓dSl_u, ↓dNoPart_u, ↓dRev_u, ↓dYes_u, ↓dDic0_u, ↓dLc_u, ↓dEnum_u, ↓dZip_u, ↓gtName_u, ↓dSortSet_u, ↓dSetK_u, ↓dDisp_u, ↓dVar_m, ↓dTru_m, ↓dAnd_m, ↓dOr_m, ↓dNot_m, ↓dChain_m, ↓dIter_m, ↓dRange1_m, ↓dPart_m, ↓gtCons_m, ↓gtNil_m, ↓gtTup_m, ↓sPar_m, ↓oAdd_m, ↓oInt_m, ↓oNeg_m, ↓oOrd_m, ↓oIx_m, ↓oLen_m, ↓oToInt_m, ↓oToTup_m, ↓oToList_m, ↓oGet1_m, ↓oUpper_m, ↓oToStr_m, ↓oPop_m, ↓oAppend_m, ↓oPut_m, ↓oSIndex_m, ↓atI_m, ↓getK_m, ↓oSl, ↓oRev, ↓oIsi_T, ↓oMax2I, ↓oMulI, ↓eqI, ↓eqS, ↓eqL, ↓eqT, ↓neI, ↓neS, ↓neL, ↓neT, vw_non, vw_bl, vw_int, vw_str, vw_tup, vw_lst, vw_dic, vw_raw, vw_obj, truD, keyD, itemsOf, mthTy, lenD, seqD, List.map_cons, List.map_nil, List.cons_append, List.nil_append, List.getElem?_cons_zero, List.getElem?_cons_succ, List.getElem?_nil, List.set_cons_zero, List.set_cons_succ, List.length_cons, List.length_nil, ↓reduceIte, Bool.not_true, Bool.not_false, Bool.false_eq_true, true_and, and_true, List.replicate_zero, List.replicate_succ, List.append_nil, ↓sp1_m, ↓spRow_m, ↓spRis_m, ↓spPl_m, ↓spPg_m, ↓spDraw_m, ↓spDrw_m, ↓yes_m, ↓spBetween_m, ↓spNeed_m, ↓in2, ↓oMulT_m]
      exact k1 rfl
    · rw [filter_T, List.map_id]; exact k1
  · obtain ⟨L, eL, nL, wL, mL⟩ := all_inner (σ := σ) (m := m) (by omega) pgs 0 (fun i d hd => by rw [Nat.zero_add]; exact hP.2 i d hd) (by rw [hP.1]; omega)
    rw [List.nil_append, eL]
    simp only [mkLst, ↓reduceIte, ↓sSeq_u, ↓sNext_u, ↓sBreak_u, ↓sCont_u, ↓sDrop_u, ↓sRet_u, ↓sRetN_u, ↓sIf_u, ↓sAsg_u, ↓sPut_u, ↓sFor_u, ↓dC_u, ↓dNil_u, ↓dCons_u, ↓dBlt_u, ↓dOp2_u, ↓dUn_u, ↓dMeth_u, ↓dCall_u, ↓dCallK_u, ↓dNotT_u, ↓dAndT_u, ↓dOrT_u, ↓dIf_u, ↓dTup_u, ↓dLst_u, ↓dLstO_u, ↓dSl_u, ↓dNoPart_u, ↓dRev_u, ↓dYes_u, ↓dDic0_u, ↓dLc_u, ↓dEnum_u, ↓dZip_u, ↓gtName_u, ↓dSortSet_u, ↓dSetK_u, ↓dDisp_u, ↓dVar_m, ↓dTru_m, ↓dAnd_m, ↓dOr_m, ↓dNot_m, ↓dChain_m, ↓dIter_m, ↓dRange1_m, ↓dPart_m, ↓gtCons_m, ↓gtNil_m, ↓gtTup_m, ↓sPar_m, ↓oAdd_m, ↓oInt_m, ↓oNeg_m, ↓oOrd_m, ↓oIx_m, ↓oLen_m, ↓oToInt_m, ↓oToTup_m, ↓oToList_m, ↓oGet1_m, ↓oUpper_m, ↓oToStr_m, ↓oPop_m, ↓oAppend_m, ↓oPut_m, ↓oSIndex_m, ↓atI_m, ↓getK_m, ↓oSl, ↓oRev, ↓oIsi_T, ↓oMax2I, ↓oMulI, ↓eqI, ↓eqS, ↓eqL, ↓eqT, ↓neI, ↓neS, ↓neL, ↓neT, vw_non, vw_bl, vw_int, vw_str, vw_tup, vw_lst, vw_dic, vw_raw, vw_obj, truD, keyD, itemsOf, mthTy, lenD, seqD, List.map_cons, List.map_nil, List.cons_append, List.nil_append, List.getElem?_cons_zero, List.getElem?_cons_succ, List.getElem?_nil, List.set_cons_zero, List.set_cons_succ, List.length_cons, List.length_nil, ↓reduceIte, Bool.not_true, Bool.not_false, Bool.false_eq_true, true_and, and_true, List.replicate_zero, List.replicate_succ, List.append_nil, ↓sp1_m, ↓spRow_m, ↓spRis_m, ↓spPl_m, ↓spPg_m, ↓spDraw_m, ↓spDrw_m, ↓yes_m, ↓spBetween_m, ↓spNeed_m, ↓in2, ↓oMulT_m]
    refine ⟨_, L.map (prI (wAll m σ)), rfl, .inl rfl, prC_sortC _ L, ?_⟩
    rw [sort_prC nL]
    simp only [mkLst, ↓reduceIte, ↓sSeq_u, ↓sNext_u, ↓sBreak_u, ↓sCont_u, ↓sDrop_u, ↓sRet_u, ↓sRetN_u, ↓sIf_u, ↓sAsg_u, ↓sPut_u, ↓sFor_u, ↓dC_u, ↓dNil_u, ↓dCons_u, ↓dBlt_u, ↓dOp2_u, ↓dUn_u, ↓dMeth_u, ↓dCall_u, ↓dCallK_u, ↓dNotT_u, ↓dAndT_u, ↓dOrT_u, ↓dIf_u, ↓dTup_u, ↓dLst_u, ↓dLstO_u, ↓dSl_u, ↓dNoPart_u, ↓dRev_u, ↓dYes_u, ↓dDic0_u, ↓dLc_u, ↓dEnum_u, ↓dZip_u, ↓gtName_u, ↓dSortSet_u, ↓dSetK_u, ↓dDisp_u, ↓dVar_m, ↓dTru_m, ↓dAnd_m, ↓dOr_m, ↓dNot_m, ↓dChain_m, ↓dIter_m, ↓dRange1_m, ↓dPart_m, ↓gtCons_m, ↓gtNil_m, ↓gtTup_m, ↓sPar_m, ↓oAdd_m, ↓oInt_m, ↓oNeg_m, ↓oOrd_m, ↓oIx_m, ↓oLen_m, ↓oToInt_m, ↓oToTup_m, ↓oToList_m, ↓oGet1_m, ↓oUpper_m, ↓oToStr_m, ↓oPop_m, ↓oAppend_m, ↓oPut_m, ↓oSIndex_m, ↓atI_m, ↓getK_m, ↓oSl, ↓oRev, ↓oIsi_T, ↓oMax2I, ↓oMulI, ↓eqI, ↓eqS, ↓eqL, ↓eqT, ↓neI, ↓neS, ↓neL, ↓neT, vw_non, vw_bl, vw_int, vw_str, vw_tup, vw_lst, vw_dic, vw_raw, vw_obj, truD, keyD, itemsOf, mthTy, lenD, seqD, List.map_cons, List.map_nil, List.cons_append, List.nil_append, List.getElem?_cons_zero, List.getElem?_cons_succ, List.getElem?_nil, List.set_cons_zero, List.set_cons_succ, List.length_cons, List.length_nil, ↓reduceIte, Bool.not_true, Bool.not_false, Bool.false_eq_true, true_and, and_true, List.replicate_zero, List.replicate_succ, List.append_nil, ↓sp1_m, ↓spRow_m, ↓spRis_m, ↓spPl_m, ↓spPg_m, ↓spDraw_m, ↓spDrw_m, ↓yes_m, ↓spBetween_m, ↓spNeed_m, ↓in2, ↓oMulT_m]
    refine q _ ⟨L, nL, fun k => ?_, wL, wAll_v m1 hP, rfl⟩
    rw [mL, hP.1]
    have h1 : plS k m < m := Int.emod_lt_of_pos _ (by omega)
    have hp := plS_nat k (m := m) (by omega)
    exact ⟨fun h => h.2, fun h => ⟨⟨by omega, by omega⟩, h⟩⟩
theorem dl_worths_on {M : St3} {ds : List D} {Q : KD} (h : spWorths M ds Q) : td_worths_on spWorths (spNeed pgsP) (E0 Q) (ds.map some ++ List.replicate 0 none) M := by
  obtain ⟨m, σ, pgs, rfl, ⟨hP, m1, m8⟩, q⟩ := h
  simp only [td_worths_on, ↓sSeq_u, ↓sNext_u, ↓sBreak_u, ↓sCont_u, ↓sDrop_u, ↓sRet_u, ↓sRetN_u, ↓sIf_u, ↓sAsg_u, ↓sPut_u, ↓sFor_u, ↓dC_u, ↓dNil_u, ↓dCons_u, ↓dBlt_u, ↓dOp2_u, ↓dUn_u, ↓dMeth_u, ↓dCall_u, ↓dCallK_u, ↓dNotT_u, ↓dAndT_u, ↓dOrT_u, ↓dIf_u, ↓dTup_u, ↓dLst_u, ↓dLstO_u, ↓dSl_u, ↓dNoPart_u, ↓dRev_u, ↓dYes_u, ↓dDic0_u, ↓dLc_u, ↓dEnum_u, ↓dZip_u, ↓gtName_u, ↓dSortSet_u, ↓dSetK_u, ↓dDisp_u, ↓dVar_m, ↓dTru_m, ↓dAnd_m, ↓dOr_m, ↓dNot_m, ↓dChain_m, ↓dIter_m, ↓dRange1_m, ↓dPart_m, ↓gtCons_m, ↓gtNil_m, ↓gtTup_m, ↓sPar_m, ↓oAdd_m, ↓oInt_m, ↓oNeg_m, ↓oOrd_m, ↓oIx_m, ↓oLen_m, ↓oToInt_m, ↓oToTup_m, ↓oToList_m, ↓oGet1_m, ↓oUpper_m, ↓oToStr_m, ↓oPop_m, ↓oAppend_m, ↓oPut_m, ↓oSIndex_m, ↓atI_m, ↓getK_m, ↓oSl, ↓oRev, ↓oIsi_T, ↓oMax2I, ↓oMulI, ↓eqI, ↓eqS, ↓eqL, ↓eqT, ↓neI, ↓neS, ↓neL, ↓neT, vw_non, vw_bl, vw_int, vw_str, vw_tup, vw_lst, vw_dic, vw_raw, vw_obj, truD, keyD, itemsOf, mthTy, lenD, seqD, List.map_cons, List.map_nil, List.cons_append, List.nil_append, List.getElem?_cons_zero, List.getElem?_cons_succ, List.getElem?_nil, List.set_cons_zero, List.set_cons_succ, List.length_cons, List.length_nil, ↓reduceIte, Bool.not_true, Bool.not_false, Bool.false_eq_true, true_and, and_true, List.replicate_zero, List.replicate_succ, List.append_nil, ↓sp1_m, ↓spRow_m, ↓spRis_m, ↓spPl_m, ↓spPg_m, ↓spDraw_m, ↓spDrw_m, ↓yes_m, ↓spBetween_m, ↓spNeed_m, ↓in2, ↓oMulT_m]
  exact ⟨hP.pgs m1 m8, m, σ, pgs, rfl, ⟨hP, m1, m8⟩, q⟩
theorem dl_all_done {M : St3} {ds : List D} {Q : KD} (h : spDoneAll M ds Q) : td_all_done spDoneAll (spNeed rwsT) (spNeed pgsP) (E0 Q) (ds.map some ++ List.replicate 0 none) M := by
  obtain ⟨m, σ, pgs, rs, rfl, ⟨hP, ⟨m1, m8⟩, hl, ho⟩, q⟩ := h
  simp only [td_all_done, ↓sSeq_u, ↓sNext_u, ↓sBreak_u, ↓sCont_u, ↓sDrop_u, ↓sRet_u, ↓sRetN_u, ↓sIf_u, ↓sAsg_u, ↓sPut_u, ↓sFor_u, ↓dC_u, ↓dNil_u, ↓dCons_u, ↓dBlt_u, ↓dOp2_u, ↓dUn_u, ↓dMeth_u, ↓dCall_u, ↓dCallK_u, ↓dNotT_u, ↓dAndT_u, ↓dOrT_u, ↓dIf_u, ↓dTup_u, ↓dLst_u, ↓dLstO_u, ↓dSl_u, ↓dNoPart_u, ↓dRev_u, ↓dYes_u, ↓dDic0_u, ↓dLc_u, ↓dEnum_u, ↓dZip_u, ↓gtName_u, ↓dSortSet_u, ↓dSetK_u, ↓dDisp_u, ↓dVar_m, ↓dTru_m, ↓dAnd_m, ↓dOr_m, ↓dNot_m, ↓dChain_m, ↓dIter_m, ↓dRange1_m, ↓dPart_m, ↓gtCons_m, ↓gtNil_m, ↓gtTup_m, ↓sPar_m, ↓oAdd_m, ↓oInt_m, ↓oNeg_m, ↓oOrd_m, ↓oIx_m, ↓oLen_m, ↓oToInt_m, ↓oToTup_m, ↓oToList_m, ↓oGet1_m, ↓oUpper_m, ↓oToStr_m, ↓oPop_m, ↓oAppend_m, ↓oPut_m, ↓oSIndex_m, ↓atI_m, ↓getK_m, ↓oSl, ↓oRev, ↓oIsi_T, ↓oMax2I, ↓oMulI, ↓eqI, ↓eqS, ↓eqL, ↓eqT, ↓neI, ↓neS, ↓neL, ↓neT, vw_non, vw_bl, vw_int, vw_str, vw_tup, vw_lst, vw_dic, vw_raw, vw_obj, truD, keyD, itemsOf, mthTy, lenD, seqD, List.map_cons, List.map_nil, List.cons_append, List.nil_append, List.getElem?_cons_zero, List.getElem?_cons_succ, List.getElem?_nil, List.set_cons_zero, List.set_cons_succ, List.length_cons, List.length_nil, ↓reduceIte, Bool.not_true, Bool.not_false, Bool.false_eq_true, true_and, and_true, List.replicate_zero, List.replicate_succ, List.append_nil, ↓sp1_m, ↓spRow_m, ↓spRis_m, ↓spPl_m, ↓spPg_m, ↓spDraw_m, ↓spDrw_m, ↓yes_m, ↓spBetween_m, ↓spNeed_m, ↓in2, ↓oMulT_m]
  exact ⟨hP.pgs m1 m8, ⟨rs, rfl, hl, ho⟩, m, σ, pgs, rs, rfl, ⟨hP, ⟨m1, m8⟩, hl, ho⟩, q⟩
theorem sortS_nil : sortS [] = [] := by simp [sortS]
def noP (m : Nat) : List D := List.replicate m (.tup [.int 0, .tup []])
theorem PgsR.s0 (m : Nat) : PgsR m s0 (noP m) := ⟨by simp [noP], fun a d h => by
  unfold noP at h
  rw [List.getElem?_replicate] at h
  split at h
  · cases h
    exact ⟨[], p0_R, ⟨by show (0 : Int) ≤ 0; decide, by show (0 : Int) ≤ 1000; decide⟩, by rw [sortS_nil]; rfl⟩
  · cases h⟩
def spNo : DSp := fun M ds Q => ∃ m : Nat, ds = [.int (m : Nat)] ∧ (1 ≤ m ∧ m ≤ 8) ∧ Q (.tup (noP m)) M
theorem dl_no_pages {M : St3} {ds : List D} {Q : KD} (h : spNo M ds Q) : td_no_pages (E0 Q) (ds.map some ++ List.replicate 0 none) M := by
  obtain ⟨m, rfl, ⟨h1, h2⟩, q⟩ := h
  have z : ∀ k, k ≤ 3000 → k ≤ sizeLine := fun k h => sz_le (by omega)
  simp only [td_no_pages, ↓sSeq_u, ↓sNext_u, ↓sBreak_u, ↓sCont_u, ↓sDrop_u, ↓sRet_u, ↓sRetN_u, ↓sIf_u, ↓sAsg_u, ↓sPut_u, ↓sFor_u, ↓dC_u, ↓dNil_u, ↓dCons_u, ↓dBlt_u, ↓dOp2_u, ↓dUn_u, ↓dMeth_u, ↓dCall_u, ↓dCallK_u, ↓dNotT_u, ↓dAndT_u, ↓dOrT_u, ↓dIf_u, ↓dTup_u, ↓dLst_u, ↓dLstO_u, ↓dSl_u, ↓dNoPart_u, ↓dRev_u, ↓dYes_u, ↓dDic0_u, ↓dLc_u, ↓dEnum_u, ↓dZip_u, ↓gtName_u, ↓dSortSet_u, ↓dSetK_u, ↓dDisp_u, ↓dVar_m, ↓dTru_m, ↓dAnd_m, ↓dOr_m, ↓dNot_m, ↓dChain_m, ↓dIter_m, ↓dRange1_m, ↓dPart_m, ↓gtCons_m, ↓gtNil_m, ↓gtTup_m, ↓sPar_m, ↓oAdd_m, ↓oInt_m, ↓oNeg_m, ↓oOrd_m, ↓oIx_m, ↓oLen_m, ↓oToInt_m, ↓oToTup_m, ↓oToList_m, ↓oGet1_m, ↓oUpper_m, ↓oToStr_m, ↓oPop_m, ↓oAppend_m, ↓oPut_m, ↓oSIndex_m, ↓atI_m, ↓getK_m, ↓oSl, ↓oRev, ↓oIsi_T, ↓oMax2I, ↓oMulI, ↓eqI, ↓eqS, ↓eqL, ↓eqT, ↓neI, ↓neS, ↓neL, ↓neT, vw_non, vw_bl, vw_int, vw_str, vw_tup, vw_lst, vw_dic, vw_raw, vw_obj, truD, keyD, itemsOf, mthTy, lenD, seqD, List.map_cons, List.map_nil, List.cons_append, List.nil_append, List.getElem?_cons_zero, List.getElem?_cons_succ, List.getElem?_nil, List.set_cons_zero, List.set_cons_succ, List.length_cons, List.length_nil, ↓reduceIte, Bool.not_true, Bool.not_false, Bool.false_eq_true, true_and, and_true, List.replicate_zero, List.replicate_succ, List.append_nil, ↓sp1_m, ↓spRow_m, ↓spRis_m, ↓spPl_m, ↓spPg_m, ↓spDraw_m, ↓spDrw_m, ↓yes_m, ↓spBetween_m, ↓spNeed_m, ↓in2, ↓oMulT_m]
  refine ⟨z _ (by decide), z _ (by decide), z _ (by decide), ⟨by simp, by omega, by omega, by simp⟩, ?_⟩
  rw [rep1]
  exact q
/-- the worths that rows give -/
abbrev lastW (rs : List Rw) : Str → Option Int := lastF (fun _ => none) rs
def spBy : DSp := fun M ds Q => ∃ rs : List Rw, ds = [.tup (rs.map Rw.D)] ∧ (rs.length ≤ 100 ∧ ∀ r ∈ rs, r.ok) ∧ ∀ d X, WR (lastW rs) d → Q d (M ++ X)
theorem wAll_last {m : Int} (hm : 0 < m) (rs : List Rw) : wAll m (foldS m 1 rs s0) = lastW rs := funext fun k =>
  fold_last hm rs 1 s0 (fun _ => none) (fun a => by show (0 : Int) < 1; decide) (fun k => rfl) k
theorem dl_worths_of_rows {M : St3} {ds : List D} {Q : KD} (h : spBy M ds Q) : td_worths_of_rows spWorths spDoneAll spNo (E0 Q) (ds.map some ++ List.replicate 0 none) M := by
  obtain ⟨rs, rfl, ⟨hl, ho⟩, q⟩ := h
  simp only [td_worths_of_rows, ↓sSeq_u, ↓sNext_u, ↓sBreak_u, ↓sCont_u, ↓sDrop_u, ↓sRet_u, ↓sRetN_u, ↓sIf_u, ↓sAsg_u, ↓sPut_u, ↓sFor_u, ↓dC_u, ↓dNil_u, ↓dCons_u, ↓dBlt_u, ↓dOp2_u, ↓dUn_u, ↓dMeth_u, ↓dCall_u, ↓dCallK_u, ↓dNotT_u, ↓dAndT_u, ↓dOrT_u, ↓dIf_u, ↓dTup_u, ↓dLst_u, ↓dLstO_u, ↓dSl_u, ↓dNoPart_u, ↓dRev_u, ↓dYes_u, ↓dDic0_u, ↓dLc_u, ↓dEnum_u, ↓dZip_u, ↓gtName_u, ↓dSortSet_u, ↓dSetK_u, ↓dDisp_u, ↓dVar_m, ↓dTru_m, ↓dAnd_m, ↓dOr_m, ↓dNot_m, ↓dChain_m, ↓dIter_m, ↓dRange1_m, ↓dPart_m, ↓gtCons_m, ↓gtNil_m, ↓gtTup_m, ↓sPar_m, ↓oAdd_m, ↓oInt_m, ↓oNeg_m, ↓oOrd_m, ↓oIx_m, ↓oLen_m, ↓oToInt_m, ↓oToTup_m, ↓oToList_m, ↓oGet1_m, ↓oUpper_m, ↓oToStr_m, ↓oPop_m, ↓oAppend_m, ↓oPut_m, ↓oSIndex_m, ↓atI_m, ↓getK_m, ↓oSl, ↓oRev, ↓oIsi_T, ↓oMax2I, ↓oMulI, ↓eqI, ↓eqS, ↓eqL, ↓eqT, ↓neI, ↓neS, ↓neL, ↓neT, vw_non, vw_bl, vw_int, vw_str, vw_tup, vw_lst, vw_dic, vw_raw, vw_obj, truD, keyD, itemsOf, mthTy, lenD, seqD, List.map_cons, List.map_nil, List.cons_append, List.nil_append, List.getElem?_cons_zero, List.getElem?_cons_succ, List.getElem?_nil, List.set_cons_zero, List.set_cons_succ, List.length_cons, List.length_nil, ↓reduceIte, Bool.not_true, Bool.not_false, Bool.false_eq_true, true_and, and_true, List.replicate_zero, List.replicate_succ, List.append_nil, ↓sp1_m, ↓spRow_m, ↓spRis_m, ↓spPl_m, ↓spPg_m, ↓spDraw_m, ↓spDrw_m, ↓yes_m, ↓spBetween_m, ↓spNeed_m, ↓in2, ↓oMulT_m]
  refine ⟨1, rfl, ⟨by decide, by decide⟩, ?_⟩
  simp only [↓sSeq_u, ↓sNext_u, ↓sBreak_u, ↓sCont_u, ↓sDrop_u, ↓sRet_u, ↓sRetN_u, ↓sIf_u, ↓sAsg_u, ↓sPut_u, ↓sFor_u, ↓dC_u, ↓dNil_u, ↓dCons_u, ↓dBlt_u, ↓dOp2_u, ↓dUn_u, ↓dMeth_u, ↓dCall_u, ↓dCallK_u, ↓dNotT_u, ↓dAndT_u, ↓dOrT_u, ↓dIf_u, ↓dTup_u, ↓dLst_u, ↓dLstO_u, ↓dSl_u, ↓dNoPart_u, ↓dRev_u, ↓dYes_u, ↓dDic0_u, ↓dLc_u, ↓dEnum_u, ↓dZip_u, ↓gtName_u, ↓dSortSet_u, ↓dSetK_u, ↓dDisp_u, ↓dVar_m, ↓dTru_m, ↓dAnd_m, ↓dOr_m, ↓dNot_m, ↓dChain_m, ↓dIter_m, ↓dRange1_m, ↓dPart_m, ↓gtCons_m, ↓gtNil_m, ↓gtTup_m, ↓sPar_m, ↓oAdd_m, ↓oInt_m, ↓oNeg_m, ↓oOrd_m, ↓oIx_m, ↓oLen_m, ↓oToInt_m, ↓oToTup_m, ↓oToList_m, ↓oGet1_m, ↓oUpper_m, ↓oToStr_m, ↓oPop_m, ↓oAppend_m, ↓oPut_m, ↓oSIndex_m, ↓atI_m, ↓getK_m, ↓oSl, ↓oRev, ↓oIsi_T, ↓oMax2I, ↓oMulI, ↓eqI, ↓eqS, ↓eqL, ↓eqT, ↓neI, ↓neS, ↓neL, ↓neT, vw_non, vw_bl, vw_int, vw_str, vw_tup, vw_lst, vw_dic, vw_raw, vw_obj, truD, keyD, itemsOf, mthTy, lenD, seqD, List.map_cons, List.map_nil, List.cons_append, List.nil_append, List.getElem?_cons_zero, List.getElem?_cons_succ, List.getElem?_nil, List.set_cons_zero, List.set_cons_succ, List.length_cons, List.length_nil, ↓reduceIte, Bool.not_true, Bool.not_false, Bool.false_eq_true, true_and, and_true, List.replicate_zero, List.replicate_succ, List.append_nil, ↓sp1_m, ↓spRow_m, ↓spRis_m, ↓spPl_m, ↓spPg_m, ↓spDraw_m, ↓spDrw_m, ↓yes_m, ↓spBetween_m, ↓spNeed_m, ↓in2, ↓oMulT_m]
  refine ⟨1, s0, _, rs, rfl, ⟨PgsR.s0 1, ⟨by decide, by decide⟩, hl, ho⟩, fun pgs X hP => ?_⟩
  simp only [↓sSeq_u, ↓sNext_u, ↓sBreak_u, ↓sCont_u, ↓sDrop_u, ↓sRet_u, ↓sRetN_u, ↓sIf_u, ↓sAsg_u, ↓sPut_u, ↓sFor_u, ↓dC_u, ↓dNil_u, ↓dCons_u, ↓dBlt_u, ↓dOp2_u, ↓dUn_u, ↓dMeth_u, ↓dCall_u, ↓dCallK_u, ↓dNotT_u, ↓dAndT_u, ↓dOrT_u, ↓dIf_u, ↓dTup_u, ↓dLst_u, ↓dLstO_u, ↓dSl_u, ↓dNoPart_u, ↓dRev_u, ↓dYes_u, ↓dDic0_u, ↓dLc_u, ↓dEnum_u, ↓dZip_u, ↓gtName_u, ↓dSortSet_u, ↓dSetK_u, ↓dDisp_u, ↓dVar_m, ↓dTru_m, ↓dAnd_m, ↓dOr_m, ↓dNot_m, ↓dChain_m, ↓dIter_m, ↓dRange1_m, ↓dPart_m, ↓gtCons_m, ↓gtNil_m, ↓gtTup_m, ↓sPar_m, ↓oAdd_m, ↓oInt_m, ↓oNeg_m, ↓oOrd_m, ↓oIx_m, ↓oLen_m, ↓oToInt_m, ↓oToTup_m, ↓oToList_m, ↓oGet1_m, ↓oUpper_m, ↓oToStr_m, ↓oPop_m, ↓oAppend_m, ↓oPut_m, ↓oSIndex_m, ↓atI_m, ↓getK_m, ↓oSl, ↓oRev, ↓oIsi_T, ↓oMax2I, ↓oMulI, ↓eqI, ↓eqS, ↓eqL, ↓eqT, ↓neI, ↓neS, ↓neL, ↓neT, vw_non, vw_bl, vw_int, vw_str, vw_tup, vw_lst, vw_dic, vw_raw, vw_obj, truD, keyD, itemsOf, mthTy, lenD, seqD, List.map_cons, List.map_nil, List.cons_append, List.nil_append, List.getElem?_cons_zero, List.getElem?_cons_succ, List.getElem?_nil, List.set_cons_zero, List.set_cons_succ, List.length_cons, List.length_nil, ↓reduceIte, Bool.not_true, Bool.not_false, Bool.false_eq_true, true_and, and_true, List.replicate_zero, List.replicate_succ, List.append_nil, ↓sp1_m, ↓spRow_m, ↓spRis_m, ↓spPl_m, ↓spPg_m, ↓spDraw_m, ↓spDrw_m, ↓yes_m, ↓spBetween_m, ↓spNeed_m, ↓in2, ↓oMulT_m]
  refine ⟨1, _, pgs, rfl, ⟨hP, by decide, by decide⟩, fun d hd => q d X ?_⟩
  rw [← wAll_last (m := 1) (by decide) rs]
  exact hd
theorem dl_worths_by {M : St3} {ds : List D} {Q : KD} (h : spBy M ds Q) : td_worths_by spBy (spNeed rwsT) (E0 Q) (ds.map some ++ List.replicate 0 none) M := by
  obtain ⟨rs, rfl, ⟨hl, ho⟩, q⟩ := h
  simp only [td_worths_by, ↓sSeq_u, ↓sNext_u, ↓sBreak_u, ↓sCont_u, ↓sDrop_u, ↓sRet_u, ↓sRetN_u, ↓sIf_u, ↓sAsg_u, ↓sPut_u, ↓sFor_u, ↓dC_u, ↓dNil_u, ↓dCons_u, ↓dBlt_u, ↓dOp2_u, ↓dUn_u, ↓dMeth_u, ↓dCall_u, ↓dCallK_u, ↓dNotT_u, ↓dAndT_u, ↓dOrT_u, ↓dIf_u, ↓dTup_u, ↓dLst_u, ↓dLstO_u, ↓dSl_u, ↓dNoPart_u, ↓dRev_u, ↓dYes_u, ↓dDic0_u, ↓dLc_u, ↓dEnum_u, ↓dZip_u, ↓gtName_u, ↓dSortSet_u, ↓dSetK_u, ↓dDisp_u, ↓dVar_m, ↓dTru_m, ↓dAnd_m, ↓dOr_m, ↓dNot_m, ↓dChain_m, ↓dIter_m, ↓dRange1_m, ↓dPart_m, ↓gtCons_m, ↓gtNil_m, ↓gtTup_m, ↓sPar_m, ↓oAdd_m, ↓oInt_m, ↓oNeg_m, ↓oOrd_m, ↓oIx_m, ↓oLen_m, ↓oToInt_m, ↓oToTup_m, ↓oToList_m, ↓oGet1_m, ↓oUpper_m, ↓oToStr_m, ↓oPop_m, ↓oAppend_m, ↓oPut_m, ↓oSIndex_m, ↓atI_m, ↓getK_m, ↓oSl, ↓oRev, ↓oIsi_T, ↓oMax2I, ↓oMulI, ↓eqI, ↓eqS, ↓eqL, ↓eqT, ↓neI, ↓neS, ↓neL, ↓neT, vw_non, vw_bl, vw_int, vw_str, vw_tup, vw_lst, vw_dic, vw_raw, vw_obj, truD, keyD, itemsOf, mthTy, lenD, seqD, List.map_cons, List.map_nil, List.cons_append, List.nil_append, List.getElem?_cons_zero, List.getElem?_cons_succ, List.getElem?_nil, List.set_cons_zero, List.set_cons_succ, List.length_cons, List.length_nil, ↓reduceIte, Bool.not_true, Bool.not_false, Bool.false_eq_true, true_and, and_true, List.replicate_zero, List.replicate_succ, List.append_nil, ↓sp1_m, ↓spRow_m, ↓spRis_m, ↓spPl_m, ↓spPg_m, ↓spDraw_m, ↓spDrw_m, ↓yes_m, ↓spBetween_m, ↓spNeed_m, ↓in2, ↓oMulT_m]
  exact ⟨⟨rs, rfl, hl, ho⟩, rs, rfl, ⟨hl, ho⟩, q⟩
/-! ### the law's own tables -/
/-- the dict of a page: frozen, or an object made behind the table -/
def DdR (M : St3) (t : Nat) (f : Str → Option Int) (S : List Str) (dd : D) : Prop := vw M dd = .dic (ksK S) (valsC S fun y => oD (f y)) ∧ ((∃ ks ds, dd = .dic ks ds) ∨ ∃ j, dd = .obj j ∧ t < j ∧ j < M.length)
def PtR (M : St3) (t : Nat) (m : Int) (a : Nat) (p : Pg) (e : D) : Prop := ∃ S dd, e = .tup [.int p.1, dd] ∧ KsR m a p.2 S ∧ (0 ≤ p.1 ∧ p.1 ≤ 1000) ∧ DdR M t p.2 S dd
def TbR (M : St3) (t : Nat) (m : Nat) (σ : Sg) : Prop := ∃ es, M[t]? = some (.lst es) ∧ es.length = m ∧ ∀ a e, es[a]? = some e → PtR M t m a (σ a) e
theorem DdR.frame {M M' : St3} {t u : Nat} {f : Str → Option Int} {S : List Str} {dd : D} (h : DdR M t f S dd) (k : Frame u M M') (hu : u = t ∨ M.length ≤ u) : DdR M' t f S dd := by
  obtain ⟨h1, h2⟩ := h
  refine ⟨?_, ?_⟩
  · rcases h2 with ⟨ks, ds, rfl⟩ | ⟨j, rfl, hj, hl⟩
    · exact h1
    · have : M'[j]? = M[j]? := k.2 j hl (by omega)
      rw [vw_obj] at h1 ⊢
      rw [this]; exact h1
  · rcases h2 with h2 | ⟨j, rfl, hj, hl⟩
    · exact .inl h2
    · exact .inr ⟨j, rfl, hj, Nat.lt_of_lt_of_le hl k.1⟩
theorem PtR.frame {M M' : St3} {t u : Nat} {m : Int} {a : Nat} {p : Pg} {e : D} (h : PtR M t m a p e) (k : Frame u M M') (hu : u = t ∨ M.length ≤ u) : PtR M' t m a p e := by
  obtain ⟨S, dd, h1, h2, h3, h4⟩ := h
  exact ⟨S, dd, h1, h2, h3, h4.frame k hu⟩
/-- the table -/
def spTable : DSp := fun M ds Q => ∃ m : Nat, ds = [.int (m : Nat)] ∧ (1 ≤ m ∧ m ≤ 8) ∧ ∀ M', TbR M' M.length m s0 → Frame M.length M M' → Q (.obj M.length) M'
theorem dl_law_table {M : St3} {ds : List D} {Q : KD} (h : spTable M ds Q) : td_law_table (E0 Q) (ds.map some ++ List.replicate 1 none) M := by
  obtain ⟨m, rfl, ⟨h1, h2⟩, q⟩ := h
  have z : ∀ k, k ≤ 3000 → k ≤ sizeLine := fun k h => sz_le (by omega)
  simp only [td_law_table, ↓sSeq_u, ↓sNext_u, ↓sBreak_u, ↓sCont_u, ↓sDrop_u, ↓sRet_u, ↓sRetN_u, ↓sIf_u, ↓sAsg_u, ↓sPut_u, ↓sFor_u, ↓dC_u, ↓dNil_u, ↓dCons_u, ↓dBlt_u, ↓dOp2_u, ↓dUn_u, ↓dMeth_u, ↓dCall_u, ↓dCallK_u, ↓dNotT_u, ↓dAndT_u, ↓dOrT_u, ↓dIf_u, ↓dTup_u, ↓dLst_u, ↓dLstO_u, ↓dSl_u, ↓dNoPart_u, ↓dRev_u, ↓dYes_u, ↓dDic0_u, ↓dLc_u, ↓dEnum_u, ↓dZip_u, ↓gtName_u, ↓dSortSet_u, ↓dSetK_u, ↓dDisp_u, ↓dVar_m, ↓dTru_m, ↓dAnd_m, ↓dOr_m, ↓dNot_m, ↓dChain_m, ↓dIter_m, ↓dRange1_m, ↓dPart_m, ↓gtCons_m, ↓gtNil_m, ↓gtTup_m, ↓sPar_m, ↓oAdd_m, ↓oInt_m, ↓oNeg_m, ↓oOrd_m, ↓oIx_m, ↓oLen_m, ↓oToInt_m, ↓oToTup_m, ↓oToList_m, ↓oGet1_m, ↓oUpper_m, ↓oToStr_m, ↓oPop_m, ↓oAppend_m, ↓oPut_m, ↓oSIndex_m, ↓atI_m, ↓getK_m, ↓oSl, ↓oRev, ↓oIsi_T, ↓oMax2I, ↓oMulI, ↓eqI, ↓eqS, ↓eqL, ↓eqT, ↓neI, ↓neS, ↓neL, ↓neT, vw_non, vw_bl, vw_int, vw_str, vw_tup, vw_lst, vw_dic, vw_raw, vw_obj, truD, keyD, itemsOf, mthTy, lenD, seqD, List.map_cons, List.map_nil, List.cons_append, List.nil_append, List.getElem?_cons_zero, List.getElem?_cons_succ, List.getElem?_nil, List.set_cons_zero, List.set_cons_succ, List.length_cons, List.length_nil, ↓reduceIte, Bool.not_true, Bool.not_false, Bool.false_eq_true, true_and, and_true, List.replicate_zero, List.replicate_succ, List.append_nil, ↓sp1_m, ↓spRow_m, ↓spRis_m, ↓spPl_m, ↓spPg_m, ↓spDraw_m, ↓spDrw_m, ↓yes_m, ↓spBetween_m, ↓spNeed_m, ↓in2, ↓oMulT_m]
  refine ⟨⟨by omega, by omega⟩, ?_⟩
  refine lcGo_pure (fun _ => true) (fun _ => .tup [.int 0, .dic [] []]) trivial (by simp [seqI]; exact z _ (by omega)) (fun y hy Kn Ks k1 k2 => ?_) ?_
  · simp only [mkDic, ↓reduceIte, ↓sSeq_u, ↓sNext_u, ↓sBreak_u, ↓sCont_u, ↓sDrop_u, ↓sRet_u, ↓sRetN_u, ↓sIf_u, ↓sAsg_u, ↓sPut_u, ↓sFor_u, ↓dC_u, ↓dNil_u, ↓dCons_u, ↓dBlt_u, ↓dOp2_u, ↓dUn_u, ↓dMeth_u, ↓dCall_u, ↓dCallK_u, ↓dNotT_u, ↓dAndT_u, ↓dOrT_u, ↓dIf_u, ↓dTup_u, ↓dLst_u, ↓dLstO_u, ↓dSl_u, ↓dNoPart_u, ↓dRev_u, ↓dYes_u, ↓dDic0_u, ↓dLc_u, ↓dEnum_u, ↓dZip_u, ↓gtName_u, ↓dSortSet_u, ↓dSetK_u, ↓dDisp_u, ↓dVar_m, ↓dTru_m, ↓dAnd_m, ↓dOr_m, ↓dNot_m, ↓dChain_m, ↓dIter_m, ↓dRange1_m, ↓dPart_m, ↓gtCons_m, ↓gtNil_m, ↓gtTup_m, ↓sPar_m, ↓oAdd_m, ↓oInt_m, ↓oNeg_m, ↓oOrd_m, ↓oIx_m, ↓oLen_m, ↓oToInt_m, ↓oToTup_m, ↓oToList_m, ↓oGet1_m, ↓oUpper_m, ↓oToStr_m, ↓oPop_m, ↓oAppend_m, ↓oPut_m, ↓oSIndex_m, ↓atI_m, ↓getK_m, ↓oSl, ↓oRev, ↓oIsi_T, ↓oMax2I, ↓oMulI, ↓eqI, ↓eqS, ↓eqL, ↓eqT, ↓neI, ↓neS, ↓neL, ↓neT, vw_non, vw_bl, vw_int, vw_str, vw_tup, vw_lst, vw_dic, vw_raw, vw_obj, truD, keyD, itemsOf, mthTy, lenD, seqD, List.map_cons, List.map_nil, List.cons_append, List.nil_append, List.getElem?_cons_zero, List.getElem?_cons_succ, List.getElem?_nil, List.set_cons_zero, List.set_cons_succ, List.length_cons, List.length_nil, ↓reduceIte, Bool.not_true, Bool.not_false, Bool.false_eq_true, true_and, and_true, List.replicate_zero, List.replicate_succ, List.append_nil, ↓sp1_m, ↓spRow_m, ↓spRis_m, ↓spPl_m, ↓spPg_m, ↓spDraw_m, ↓spDrw_m, ↓yes_m, ↓spBetween_m, ↓spNeed_m, ↓in2, ↓oMulT_m, wipe3]
    exact ⟨z _ (by decide), k1 rfl⟩
  · rw [filter_T]
    simp only [↓reduceIte, List.nil_append]
    refine q _ ⟨(seqI 0 (m : Int).toNat).map fun _ => .tup [.int 0, .dic [] []], by simp, by simp [seqI], fun a e he => ?_⟩ (Frame.app _ _ _)
    rw [List.getElem?_map] at he
    cases hx : (seqI 0 (m : Int).toNat)[a]? with
    | none => rw [hx] at he; cases he
    | some x =>
      rw [hx] at he
      simp only [Option.map_some, Option.some.injEq] at he
      subst he
      exact ⟨[], _, rfl, p0_R, ⟨by show (0 : Int) ≤ 0; decide, by show (0 : Int) ≤ 1000; decide⟩, rfl, .inl ⟨_, _, rfl⟩⟩
end L3.K55
namespace L3.K55
open PySem PySem.Spec PyProof.Rows L2
theorem setC_oD {f : Str → Option Int} {k : Str} {w : Option Int} : setC (fun y => oD (f y)) k (oD w) = fun y => oD (upd1 f k w y) := funext fun y => by
  unfold setC upd1; split <;> rfl
theorem set_app {M : St3} {t : Nat} {x y : MO} (h : t < M.length) : (M ++ [x]).set t y = M.set t y ++ [x] := by
  rw [List.set_append, if_pos h]
def spDo : DSp := fun M ds Q => ∃ (t m : Nat) (σ : Sg) (i : Int) (r : Rw), ds = [.obj t, .int i, r.D] ∧ (TbR M t m σ ∧ (1 ≤ m ∧ m ≤ 8) ∧ (1 ≤ i ∧ i ≤ 1000) ∧ r.ok) ∧ ∀ M', TbR M' t m (stepS m i r σ) → Frame t M M' → Q .non M'
theorem TbR.same {M : St3} {t m : Nat} {σ τ : Sg} (h : TbR M t m σ) (e : ∀ a, a < m → σ a = τ a) : TbR M t m τ := by
  obtain ⟨es, h1, h2, h3⟩ := h
  exact ⟨es, h1, h2, fun a d hd => by
    have := (List.getElem?_eq_some_iff.mp hd).1
    rw [← e a (by rw [← h2]; exact this)]
    exact h3 a d hd⟩
theorem dl_law_do {M : St3} {ds : List D} {Q : KD} (h : spDo M ds Q) : td_law_do spPl (E0 Q) (ds.map some ++ List.replicate 4 none) M := by
  obtain ⟨t, m, σ, i, r, rfl, ⟨hT, ⟨m1, m8⟩, ⟨i1, i2⟩, ho⟩, q⟩ := h
  have z : ∀ k, k ≤ 3000 → k ≤ sizeLine := fun k h => sz_le (by omega)
  obtain ⟨es, hM, hlen, hP⟩ := id hT
  have htl : t < M.length := (List.getElem?_eq_some_iff.mp hM).1
  cases ht : r.touch with
  | none =>
    obtain ⟨xs, hd, e, hn, a0⟩ := noTouchD ht
    rw [e]
    simp only [td_law_do, ↓sSeq_u, ↓sNext_u, ↓sBreak_u, ↓sCont_u, ↓sDrop_u, ↓sRet_u, ↓sRetN_u, ↓sIf_u, ↓sPut_u, ↓sFor_u, ↓dC_u, ↓dNil_u, ↓dCons_u, ↓dBlt_u, ↓dOp2_u, ↓dUn_u, ↓dMeth_u, ↓dCall_u, ↓dCallK_u, ↓dNotT_u, ↓dAndT_u, ↓dOrT_u, ↓dIf_u, ↓dTup_u, ↓dLst_u, ↓dLstO_u, ↓dSl_u, ↓dNoPart_u, ↓dRev_u, ↓dYes_u, ↓dDic0_u, ↓dLc_u, ↓dEnum_u, ↓dZip_u, ↓gtName_u, ↓dSortSet_u, ↓dSetK_u, ↓dDisp_u, ↓dVar_m, ↓dTru_m, ↓dAnd_m, ↓dOr_m, ↓dNot_m, ↓dChain_m, ↓dIter_m, ↓dRange1_m, ↓dPart_m, ↓gtCons_m, ↓gtNil_m, ↓gtTup_m, ↓sPar_m, ↓oAdd_m, ↓oInt_m, ↓oNeg_m, ↓oOrd_m, ↓oIx_m, ↓oLen_m, ↓oToInt_m, ↓oToTup_m, ↓oToList_m, ↓oGet1_m, ↓oUpper_m, ↓oToStr_m, ↓oPop_m, ↓oAppend_m, ↓oPut_m, ↓oSIndex_m, ↓atI_m, ↓getK_m, ↓oSl, ↓oRev, ↓oIsi_T, ↓oMax2I, ↓oMulI, ↓eqI, ↓eqS, ↓eqL, ↓eqT, ↓neI, ↓neS, ↓neL, ↓neT, vw_non, vw_bl, vw_int, vw_str, vw_tup, vw_lst, vw_dic, vw_raw, vw_obj, truD, keyD, itemsOf, mthTy, lenD, seqD, List.map_cons, List.map_nil, List.cons_append, List.nil_append, List.getElem?_cons_zero, List.getElem?_cons_succ, List.getElem?_nil, List.set_cons_zero, List.set_cons_succ, List.length_cons, List.length_nil, ↓reduceIte, Bool.not_true, Bool.not_false, Bool.false_eq_true, true_and, and_true, List.replicate_zero, List.replicate_succ, List.append_nil, ↓sp1_m, ↓spRow_m, ↓spRis_m, ↓spPl_m, ↓spPg_m, ↓spDraw_m, ↓spDrw_m, ↓yes_m, ↓spBetween_m, ↓spNeed_m, ↓in2, ↓oMulT_m, ↓oDPop_m, a0, hn]
    exact ⟨z _ (by decide), q M (by rw [step_no ht]; exact hT) (Frame.refl _ _)⟩
  | some kw =>
    obtain ⟨k, w⟩ := kw
    obtain ⟨hk, hw, xs, hd, e, hh, a0, a2, am⟩ := touchD ht ho
    have hin := headIn hh
    have wk := wl8 hk
    have hm0 : (0 : Int) < m := by omega
    have hpn := plS_nat k hm0
    have p0 : 0 ≤ plS k m := by omega
    have p1 : plS k m < m := Int.emod_lt_of_pos _ hm0
    have hlt : (plS k m).toNat < es.length := by omega
    have hix : ixN es.length (plS k m) = some (plS k m).toNat := by
      unfold ixN
      rw [if_pos p0, if_pos (by rw [hlen]; exact p1)]
    have hat : atI es (plS k m) = some es[(plS k m).toNat] := by
      unfold atI
      rw [hix]; simp [hlt]
    obtain ⟨S, dd, hpg, hS, hl, hdd⟩ := hP _ _ (List.getElem?_eq_getElem hlt)
    obtain ⟨hv, hdo⟩ := id hdd
    rw [hpg] at hat
    rw [e]
    simp only [td_law_do, ↓sSeq_u, ↓sNext_u, ↓sBreak_u, ↓sCont_u, ↓sDrop_u, ↓sRet_u, ↓sRetN_u, ↓sIf_u, ↓sAsg_u, ↓sFor_u, ↓dC_u, ↓dNil_u, ↓dCons_u, ↓dBlt_u, ↓dOp2_u, ↓dUn_u, ↓dMeth_u, ↓dCall_u, ↓dCallK_u, ↓dNotT_u, ↓dAndT_u, ↓dOrT_u, ↓dIf_u, ↓dTup_u, ↓dLst_u, ↓dLstO_u, ↓dSl_u, ↓dNoPart_u, ↓dRev_u, ↓dYes_u, ↓dDic0_u, ↓dLc_u, ↓dEnum_u, ↓dZip_u, ↓gtName_u, ↓dSortSet_u, ↓dSetK_u, ↓dDisp_u, ↓dVar_m, ↓dTru_m, ↓dAnd_m, ↓dOr_m, ↓dNot_m, ↓dChain_m, ↓dIter_m, ↓dRange1_m, ↓dPart_m, ↓gtCons_m, ↓gtNil_m, ↓gtTup_m, ↓sPar_m, ↓oAdd_m, ↓oInt_m, ↓oNeg_m, ↓oOrd_m, ↓oIx_m, ↓oLen_m, ↓oToInt_m, ↓oToTup_m, ↓oToList_m, ↓oGet1_m, ↓oUpper_m, ↓oToStr_m, ↓oPop_m, ↓oAppend_m, ↓oPut_m, ↓oSIndex_m, ↓atI_m, ↓getK_m, ↓oSl, ↓oRev, ↓oIsi_T, ↓oMax2I, ↓oMulI, ↓eqI, ↓eqS, ↓eqL, ↓eqT, ↓neI, ↓neS, ↓neL, ↓neT, vw_non, vw_bl, vw_int, vw_str, vw_tup, vw_lst, vw_dic, vw_raw, vw_obj, truD, keyD, itemsOf, mthTy, lenD, seqD, List.map_cons, List.map_nil, List.cons_append, List.nil_append, List.getElem?_cons_zero, List.getElem?_cons_succ, List.getElem?_nil, List.set_cons_zero, List.set_cons_succ, List.length_cons, List.length_nil, ↓reduceIte, Bool.not_true, Bool.not_false, Bool.false_eq_true, true_and, and_true, List.replicate_zero, List.replicate_succ, List.append_nil, ↓sp1_m, ↓spRow_m, ↓spRis_m, ↓spPl_m, ↓spPg_m, ↓spDraw_m, ↓spDrw_m, ↓yes_m, ↓spBetween_m, ↓spNeed_m, ↓in2, ↓oMulT_m, ↓oDPop_m, a0, a2, am, hin, hM, hlen, hat]
    refine ⟨z _ (by decide), word_ok wk, hm0, ?_⟩
    by_cases hge : (σ (plS k m).toNat).1 < i
    rotate_left
    · have h1 : Ord4.lt.iB (σ (plS k m).toNat).1 i = false := by simpa [Ord4.iB] using hge
      rw [h1, if_neg Bool.false_ne_true]
      refine q M (hT.same fun a _ => ?_) (Frame.refl _ _)
      unfold stepS stepP
      rw [ht]
      simp only
      rw [if_neg]
      rintro ⟨z1, z2⟩
      have : a = (plS k m).toNat := by omega
      rw [this] at z2
      exact hge z2
    have h1 : Ord4.lt.iB (σ (plS k m).toNat).1 i = true := by simpa [Ord4.iB] using hge
    rw [h1, if_pos rfl]
    obtain ⟨T, eT1, eT2, nT, mT, lT⟩ := putC (x := k) (c := fun y => oD ((σ (plS k m).toNat).2 y)) (d := oD w) hS.nd
    rw [setC_oD] at eT2
    have hK := hS.put (w := w) (T := T) hk (by omega) hw nT mT
    refine .inr ⟨_, _, _, rfl, hv, ?_⟩
    simp only [mkDic, ↓reduceIte]
    have s1 : ∀ x y : MO, (M ++ [x]).set M.length y = M ++ [y] := fun x y => by simp
    have g1 : ∀ x : MO, (M ++ [x])[M.length]? = some x := fun x => by simp
    have g2 : ∀ x : MO, (M ++ [x])[t]? = some (.lst es) := fun x => by rw [List.getElem?_append_left htl]; exact hM
    have h8 := hS.len
    simp only [↓sSeq_u, ↓sNext_u, ↓sBreak_u, ↓sCont_u, ↓sDrop_u, ↓sRet_u, ↓sRetN_u, ↓sAsg_u, ↓sPut_u, ↓sFor_u, ↓dC_u, ↓dNil_u, ↓dCons_u, ↓dBlt_u, ↓dOp2_u, ↓dUn_u, ↓dMeth_u, ↓dCall_u, ↓dCallK_u, ↓dNotT_u, ↓dAndT_u, ↓dOrT_u, ↓dIf_u, ↓dTup_u, ↓dLst_u, ↓dLstO_u, ↓dSl_u, ↓dNoPart_u, ↓dRev_u, ↓dYes_u, ↓dDic0_u, ↓dLc_u, ↓dEnum_u, ↓dZip_u, ↓gtName_u, ↓dSortSet_u, ↓dSetK_u, ↓dDisp_u, ↓dVar_m, ↓dTru_m, ↓dAnd_m, ↓dOr_m, ↓dNot_m, ↓dChain_m, ↓dIter_m, ↓dRange1_m, ↓dPart_m, ↓gtCons_m, ↓gtNil_m, ↓gtTup_m, ↓sPar_m, ↓oAdd_m, ↓oInt_m, ↓oNeg_m, ↓oOrd_m, ↓oIx_m, ↓oLen_m, ↓oToInt_m, ↓oToTup_m, ↓oToList_m, ↓oGet1_m, ↓oUpper_m, ↓oToStr_m, ↓oPop_m, ↓oAppend_m, ↓oPut_m, ↓oSIndex_m, ↓atI_m, ↓getK_m, ↓oSl, ↓oRev, ↓oIsi_T, ↓oMax2I, ↓oMulI, ↓eqI, ↓eqS, ↓eqL, ↓eqT, ↓neI, ↓neS, ↓neL, ↓neT, vw_non, vw_bl, vw_int, vw_str, vw_tup, vw_lst, vw_dic, vw_raw, vw_obj, truD, keyD, itemsOf, mthTy, lenD, seqD, List.map_cons, List.map_nil, List.cons_append, List.nil_append, List.getElem?_cons_zero, List.getElem?_cons_succ, List.getElem?_nil, List.set_cons_zero, List.set_cons_succ, List.length_cons, List.length_nil, ↓reduceIte, Bool.not_true, Bool.not_false, Bool.false_eq_true, true_and, and_true, List.replicate_zero, List.replicate_succ, List.append_nil, ↓sp1_m, ↓spRow_m, ↓spRis_m, ↓spPl_m, ↓spPg_m, ↓spDraw_m, ↓spDrw_m, ↓yes_m, ↓spBetween_m, ↓spNeed_m, ↓in2, ↓oMulT_m, ↓oDPop_m, a2, am, g1, eT1, eT2, s1]
    refine ⟨by simp only [ksK, List.length_map]; exact sz_lt (by omega), ?_⟩
    -- the end, from the dict that stands there
    have fin : ∀ S3 : List Str, S3 = T.filter (fun y => (upd1 (σ (plS k m).toNat).2 k w y).isSome) → Q .non (M.set t (.lst (es.set (plS k m).toNat (.tup [.int i, .obj M.length]))) ++ [.dic (ksK S3) (valsC S3 fun y => oD (upd1 (σ (plS k m).toNat).2 k w y))]) := fun S3 e3 => by
      subst e3
      have fr : Frame t M (M.set t (.lst (es.set (plS k m).toNat (.tup [.int i, .obj M.length]))) ++ [.dic (ksK (T.filter fun y => (upd1 (σ (plS k m).toNat).2 k w y).isSome)) (valsC (T.filter fun y => (upd1 (σ (plS k m).toNat).2 k w y).isSome) fun y => oD (upd1 (σ (plS k m).toNat).2 k w y))]) :=
        ⟨by simp, fun j hj hne => by rw [List.getElem?_append_left (by rw [List.length_set]; exact hj), List.getElem?_set_ne (fun h => hne h.symm)]⟩
      refine q _ ⟨es.set (plS k m).toNat (.tup [.int i, .obj M.length]), ?_, by rw [List.length_set]; exact hlen, fun a d hd => ?_⟩ fr
      · rw [List.getElem?_append_left (by rw [List.length_set]; exact htl), List.getElem?_set_self htl]
      · rw [List.getElem?_set] at hd
        split at hd
        · rename_i ha
          subst ha
          cases hd
          unfold stepS stepP
          rw [ht]
          simp only
          rw [if_pos ⟨hpn.symm, hge⟩]
          refine ⟨_, _, rfl, hK, ⟨by show 0 ≤ i; omega, by show i ≤ 1000; omega⟩, ?_, .inr ⟨_, rfl, htl, by simp⟩⟩
          rw [vw_obj]
          have : ∀ (A : St3) (x : MO), A.length = M.length → (A ++ [x])[M.length]? = some x := fun A x h => by rw [← h]; simp
          rw [this _ _ (by simp)]
        · rename_i ha
          unfold stepS stepP
          rw [ht]
          simp only
          rw [if_neg (fun z => ha (by have := z.1; omega))]
          exact (hP a d hd).frame fr (.inl rfl)
    rw [sIf_u]
    simp only [↓sSeq_u, ↓sNext_u, ↓sBreak_u, ↓sCont_u, ↓sDrop_u, ↓sRet_u, ↓sRetN_u, ↓sIf_u, ↓sAsg_u, ↓sFor_u, ↓dC_u, ↓dNil_u, ↓dCons_u, ↓dBlt_u, ↓dOp2_u, ↓dUn_u, ↓dMeth_u, ↓dCall_u, ↓dCallK_u, ↓dNotT_u, ↓dAndT_u, ↓dOrT_u, ↓dIf_u, ↓dTup_u, ↓dLst_u, ↓dLstO_u, ↓dSl_u, ↓dNoPart_u, ↓dRev_u, ↓dYes_u, ↓dDic0_u, ↓dLc_u, ↓dEnum_u, ↓dZip_u, ↓gtName_u, ↓dSortSet_u, ↓dSetK_u, ↓dDisp_u, ↓dVar_m, ↓dTru_m, ↓dAnd_m, ↓dOr_m, ↓dNot_m, ↓dChain_m, ↓dIter_m, ↓dRange1_m, ↓dPart_m, ↓gtCons_m, ↓gtNil_m, ↓gtTup_m, ↓sPar_m, ↓oAdd_m, ↓oInt_m, ↓oNeg_m, ↓oOrd_m, ↓oIx_m, ↓oLen_m, ↓oToInt_m, ↓oToTup_m, ↓oToList_m, ↓oGet1_m, ↓oUpper_m, ↓oToStr_m, ↓oPop_m, ↓oAppend_m, ↓oPut_m, ↓oSIndex_m, ↓atI_m, ↓getK_m, ↓oSl, ↓oRev, ↓oIsi_T, ↓oMax2I, ↓oMulI, ↓eqI, ↓eqS, ↓eqL, ↓eqT, ↓neI, ↓neS, ↓neL, ↓neT, vw_non, vw_bl, vw_int, vw_str, vw_tup, vw_lst, vw_dic, vw_raw, vw_obj, truD, keyD, itemsOf, mthTy, lenD, seqD, List.map_cons, List.map_nil, List.cons_append, List.nil_append, List.getElem?_cons_zero, List.getElem?_cons_succ, List.getElem?_nil, List.set_cons_zero, List.set_cons_succ, List.length_cons, List.length_nil, ↓reduceIte, Bool.not_true, Bool.not_false, Bool.false_eq_true, true_and, and_true, List.replicate_zero, List.replicate_succ, List.append_nil, ↓sp1_m, ↓spRow_m, ↓spRis_m, ↓spPl_m, ↓spPg_m, ↓spDraw_m, ↓spDrw_m, ↓yes_m, ↓spBetween_m, ↓spNeed_m, ↓in2, ↓oMulT_m, ↓oDPop_m, am]
    rw [oIsN_m (oD_raw w)]
    have fT : ∀ y ∈ T, y ≠ k → (upd1 (σ (plS k m).toNat).2 k w y).isSome = true := fun y hy hne => by
      unfold upd1
      rw [if_neg hne]
      rcases (mT y).mp hy with h | h
      · exact (hS.me y).mp h
      · exact absurd h hne
    cases w with
    | some v =>
      have eF : T = T.filter (fun y => (upd1 (σ (plS k m).toNat).2 k (some v) y).isSome) := (List.filter_eq_self.mpr fun y hy => by
        by_cases h : y = k
        · unfold upd1; rw [if_pos h]; rfl
        · exact fT y hy h).symm
      simp only [oD, isNonD, ↓sSeq_u, ↓sNext_u, ↓sBreak_u, ↓sCont_u, ↓sDrop_u, ↓sRet_u, ↓sRetN_u, ↓sIf_u, ↓sAsg_u, ↓sPut_u, ↓sFor_u, ↓dC_u, ↓dNil_u, ↓dCons_u, ↓dBlt_u, ↓dOp2_u, ↓dUn_u, ↓dMeth_u, ↓dCall_u, ↓dCallK_u, ↓dNotT_u, ↓dAndT_u, ↓dOrT_u, ↓dIf_u, ↓dTup_u, ↓dLst_u, ↓dLstO_u, ↓dSl_u, ↓dNoPart_u, ↓dRev_u, ↓dYes_u, ↓dDic0_u, ↓dLc_u, ↓dEnum_u, ↓dZip_u, ↓gtName_u, ↓dSortSet_u, ↓dSetK_u, ↓dDisp_u, ↓dVar_m, ↓dTru_m, ↓dAnd_m, ↓dOr_m, ↓dNot_m, ↓dChain_m, ↓dIter_m, ↓dRange1_m, ↓dPart_m, ↓gtCons_m, ↓gtNil_m, ↓gtTup_m, ↓sPar_m, ↓oAdd_m, ↓oInt_m, ↓oNeg_m, ↓oOrd_m, ↓oIx_m, ↓oLen_m, ↓oToInt_m, ↓oToTup_m, ↓oToList_m, ↓oGet1_m, ↓oUpper_m, ↓oToStr_m, ↓oPop_m, ↓oAppend_m, ↓oPut_m, ↓oSIndex_m, ↓atI_m, ↓getK_m, ↓oSl, ↓oRev, ↓oIsi_T, ↓oMax2I, ↓oMulI, ↓eqI, ↓eqS, ↓eqL, ↓eqT, ↓neI, ↓neS, ↓neL, ↓neT, vw_non, vw_bl, vw_int, vw_str, vw_tup, vw_lst, vw_dic, vw_raw, vw_obj, truD, keyD, itemsOf, mthTy, lenD, seqD, List.map_cons, List.map_nil, List.cons_append, List.nil_append, List.getElem?_cons_zero, List.getElem?_cons_succ, List.getElem?_nil, List.set_cons_zero, List.set_cons_succ, List.length_cons, List.length_nil, ↓reduceIte, Bool.not_true, Bool.not_false, Bool.false_eq_true, true_and, and_true, List.replicate_zero, List.replicate_succ, List.append_nil, ↓sp1_m, ↓spRow_m, ↓spRis_m, ↓spPl_m, ↓spPg_m, ↓spDraw_m, ↓spDrw_m, ↓yes_m, ↓spBetween_m, ↓spNeed_m, ↓in2, ↓oMulT_m, ↓oDPop_m, g2, hix]
      refine ⟨z _ (by decide), ?_⟩
      rw [set_app htl]
      have := fin T eF
      exact this
    | none =>
      have eF : T.filter (fun y => decide (y ≠ k)) = T.filter (fun y => (upd1 (σ (plS k m).toNat).2 k none y).isSome) := List.filter_congr fun y hy => by
        by_cases h : y = k
        · have : (upd1 (σ (plS k m).toNat).2 k none y).isSome = false := by unfold upd1; rw [if_pos h]; rfl
          rw [this]; simp [h]
        · rw [fT y hy h]; simp [h]
      have gk := getC_in (c := fun y => oD (upd1 (σ (plS k m).toNat).2 k none y)) ((mT k).mpr (.inr rfl))
      rw [show (false != isNonD (oD (none : Option Int))) = true from rfl]
      simp only [↓sSeq_u, ↓sNext_u, ↓sBreak_u, ↓sCont_u, ↓sDrop_u, ↓sRet_u, ↓sRetN_u, ↓sIf_u, ↓sAsg_u, ↓sPut_u, ↓sFor_u, ↓dC_u, ↓dNil_u, ↓dCons_u, ↓dBlt_u, ↓dOp2_u, ↓dUn_u, ↓dMeth_u, ↓dCall_u, ↓dCallK_u, ↓dNotT_u, ↓dAndT_u, ↓dOrT_u, ↓dIf_u, ↓dTup_u, ↓dLst_u, ↓dLstO_u, ↓dSl_u, ↓dNoPart_u, ↓dRev_u, ↓dYes_u, ↓dDic0_u, ↓dLc_u, ↓dEnum_u, ↓dZip_u, ↓gtName_u, ↓dSortSet_u, ↓dSetK_u, ↓dDisp_u, ↓dVar_m, ↓dTru_m, ↓dAnd_m, ↓dOr_m, ↓dNot_m, ↓dChain_m, ↓dIter_m, ↓dRange1_m, ↓dPart_m, ↓gtCons_m, ↓gtNil_m, ↓gtTup_m, ↓sPar_m, ↓oAdd_m, ↓oInt_m, ↓oNeg_m, ↓oOrd_m, ↓oIx_m, ↓oLen_m, ↓oToInt_m, ↓oToTup_m, ↓oToList_m, ↓oGet1_m, ↓oUpper_m, ↓oToStr_m, ↓oPop_m, ↓oAppend_m, ↓oPut_m, ↓oSIndex_m, ↓atI_m, ↓getK_m, ↓oSl, ↓oRev, ↓oIsi_T, ↓oMax2I, ↓oMulI, ↓eqI, ↓eqS, ↓eqL, ↓eqT, ↓neI, ↓neS, ↓neL, ↓neT, vw_non, vw_bl, vw_int, vw_str, vw_tup, vw_lst, vw_dic, vw_raw, vw_obj, truD, keyD, itemsOf, mthTy, lenD, seqD, List.map_cons, List.map_nil, List.cons_append, List.nil_append, List.getElem?_cons_zero, List.getElem?_cons_succ, List.getElem?_nil, List.set_cons_zero, List.set_cons_succ, List.length_cons, List.length_nil, ↓reduceIte, Bool.not_true, Bool.not_false, Bool.false_eq_true, true_and, and_true, List.replicate_zero, List.replicate_succ, List.append_nil, ↓sp1_m, ↓spRow_m, ↓spRis_m, ↓spPl_m, ↓spPg_m, ↓spDraw_m, ↓spDrw_m, ↓yes_m, ↓spBetween_m, ↓spNeed_m, ↓in2, ↓oMulT_m, ↓oDPop_m, g1, g2, hix, a2, s1, gk, dropC_ks, dropC_ds]
      refine ⟨z _ (by decide), ?_⟩
      rw [set_app htl]
      exact fin _ eF
end L3.K55
namespace L3.K55
open PySem PySem.Spec PyProof.Rows L2
/-- all rows, to the law's table -/
def spDoAll : DSp := fun M ds Q => ∃ (t m : Nat) (σ : Sg) (rs : List Rw) (s : D), ds = [.obj t, s] ∧ (s = .lst (rs.map Rw.D) ∨ s = .tup (rs.map Rw.D)) ∧ (TbR M t m σ ∧ (1 ≤ m ∧ m ≤ 8) ∧ rs.length ≤ 100 ∧ ∀ r ∈ rs, r.ok) ∧ ∀ M', TbR M' t m (foldS m 1 rs σ) → Frame t M M' → Q (.obj t) M'
theorem dl_law_do_all {M : St3} {ds : List D} {Q : KD} (h : spDoAll M ds Q) : td_law_do_all spDo (E0 Q) (ds.map some ++ List.replicate 2 none) M := by
  obtain ⟨t, m, σ, rs, s, rfl, hs, ⟨hT, hm, hl, ho⟩, q⟩ := h
  rcases hs with rfl | rfl
  · simp only [td_law_do_all, ↓sSeq_u, ↓sNext_u, ↓sBreak_u, ↓sCont_u, ↓sDrop_u, ↓sRet_u, ↓sRetN_u, ↓sIf_u, ↓sAsg_u, ↓sPut_u, ↓sFor_u, ↓dC_u, ↓dNil_u, ↓dCons_u, ↓dBlt_u, ↓dOp2_u, ↓dUn_u, ↓dMeth_u, ↓dCall_u, ↓dCallK_u, ↓dNotT_u, ↓dAndT_u, ↓dOrT_u, ↓dIf_u, ↓dTup_u, ↓dLst_u, ↓dLstO_u, ↓dSl_u, ↓dNoPart_u, ↓dRev_u, ↓dYes_u, ↓dDic0_u, ↓dLc_u, ↓dEnum_u, ↓dZip_u, ↓gtName_u, ↓dSortSet_u, ↓dSetK_u, ↓dDisp_u, ↓dVar_m, ↓dTru_m, ↓dAnd_m, ↓dOr_m, ↓dNot_m, ↓dChain_m, ↓dIter_m, ↓dRange1_m, ↓dPart_m, ↓gtCons_m, ↓gtNil_m, ↓gtTup_m, ↓sPar_m, ↓oAdd_m, ↓oInt_m, ↓oNeg_m, ↓oOrd_m, ↓oIx_m, ↓oLen_m, ↓oToInt_m, ↓oToTup_m, ↓oToList_m, ↓oGet1_m, ↓oUpper_m, ↓oToStr_m, ↓oPop_m, ↓oAppend_m, ↓oPut_m, ↓oSIndex_m, ↓atI_m, ↓getK_m, ↓oSl, ↓oRev, ↓oIsi_T, ↓oMax2I, ↓oMulI, ↓eqI, ↓eqS, ↓eqL, ↓eqT, ↓neI, ↓neS, ↓neL, ↓neT, vw_non, vw_bl, vw_int, vw_str, vw_tup, vw_lst, vw_dic, vw_raw, vw_obj, truD, keyD, itemsOf, mthTy, lenD, seqD, List.map_cons, List.map_nil, List.cons_append, List.nil_append, List.getElem?_cons_zero, List.getElem?_cons_succ, List.getElem?_nil, List.set_cons_zero, List.set_cons_succ, List.length_cons, List.length_nil, ↓reduceIte, Bool.not_true, Bool.not_false, Bool.false_eq_true, true_and, and_true, List.replicate_zero, List.replicate_succ, List.append_nil, ↓sp1_m, ↓spRow_m, ↓spRis_m, ↓spPl_m, ↓spPg_m, ↓spDraw_m, ↓spDrw_m, ↓yes_m, ↓spBetween_m, ↓spNeed_m, ↓in2, ↓oMulT_m, ↓oDPop_m]
    refine .inl ⟨_, (rs.map Rw.D, fun _ => True), rfl, rfl, ?_⟩
    refine forGo_inv (fun i env M' => ∃ (a b : Option D), env = [some (.obj t), some (.lst (rs.map Rw.D)), a, b] ∧ TbR M' t m (foldS m 1 (rs.take i) σ) ∧ Frame t M M') ?_ ?_ ⟨none, none, rfl, hT, Frame.refl _ _⟩
    · rintro i x env M' hx ⟨a, b, rfl, hp, hf⟩ N hN
      unfold enumD at hx
      rw [List.getElem?_mapIdx, List.getElem?_map] at hx
      cases hr : rs[i]? with
      | none => rw [hr] at hx; cases hx
      | some r =>
        rw [hr] at hx
        simp only [Option.map_some, Option.some.injEq] at hx
        subst hx
        have hi := (List.getElem?_eq_some_iff.mp hr).1
        refine ⟨trivial, ?_⟩
        simp only [↓sSeq_u, ↓sNext_u, ↓sBreak_u, ↓sCont_u, ↓sDrop_u, ↓sRet_u, ↓sRetN_u, ↓sIf_u, ↓sAsg_u, ↓sPut_u, ↓sFor_u, ↓dC_u, ↓dNil_u, ↓dCons_u, ↓dBlt_u, ↓dOp2_u, ↓dUn_u, ↓dMeth_u, ↓dCall_u, ↓dCallK_u, ↓dNotT_u, ↓dAndT_u, ↓dOrT_u, ↓dIf_u, ↓dTup_u, ↓dLst_u, ↓dLstO_u, ↓dSl_u, ↓dNoPart_u, ↓dRev_u, ↓dYes_u, ↓dDic0_u, ↓dLc_u, ↓dEnum_u, ↓dZip_u, ↓gtName_u, ↓dSortSet_u, ↓dSetK_u, ↓dDisp_u, ↓dVar_m, ↓dTru_m, ↓dAnd_m, ↓dOr_m, ↓dNot_m, ↓dChain_m, ↓dIter_m, ↓dRange1_m, ↓dPart_m, ↓gtCons_m, ↓gtNil_m, ↓gtTup_m, ↓sPar_m, ↓oAdd_m, ↓oInt_m, ↓oNeg_m, ↓oOrd_m, ↓oIx_m, ↓oLen_m, ↓oToInt_m, ↓oToTup_m, ↓oToList_m, ↓oGet1_m, ↓oUpper_m, ↓oToStr_m, ↓oPop_m, ↓oAppend_m, ↓oPut_m, ↓oSIndex_m, ↓atI_m, ↓getK_m, ↓oSl, ↓oRev, ↓oIsi_T, ↓oMax2I, ↓oMulI, ↓eqI, ↓eqS, ↓eqL, ↓eqT, ↓neI, ↓neS, ↓neL, ↓neT, vw_non, vw_bl, vw_int, vw_str, vw_tup, vw_lst, vw_dic, vw_raw, vw_obj, truD, keyD, itemsOf, mthTy, lenD, seqD, List.map_cons, List.map_nil, List.cons_append, List.nil_append, List.getElem?_cons_zero, List.getElem?_cons_succ, List.getElem?_nil, List.set_cons_zero, List.set_cons_succ, List.length_cons, List.length_nil, ↓reduceIte, Bool.not_true, Bool.not_false, Bool.false_eq_true, true_and, and_true, List.replicate_zero, List.replicate_succ, List.append_nil, ↓sp1_m, ↓spRow_m, ↓spRis_m, ↓spPl_m, ↓spPg_m, ↓spDraw_m, ↓spDrw_m, ↓yes_m, ↓spBetween_m, ↓spNeed_m, ↓in2, ↓oMulT_m, ↓oDPop_m]
        refine ⟨t, m, _, _, r, rfl, ⟨hp, hm, ⟨by omega, by omega⟩, ho r (List.mem_of_getElem? hr)⟩, fun M2 h1 h2 => ?_⟩
        simp only [↓sSeq_u, ↓sNext_u, ↓sBreak_u, ↓sCont_u, ↓sDrop_u, ↓sRet_u, ↓sRetN_u, ↓sIf_u, ↓sAsg_u, ↓sPut_u, ↓sFor_u, ↓dC_u, ↓dNil_u, ↓dCons_u, ↓dBlt_u, ↓dOp2_u, ↓dUn_u, ↓dMeth_u, ↓dCall_u, ↓dCallK_u, ↓dNotT_u, ↓dAndT_u, ↓dOrT_u, ↓dIf_u, ↓dTup_u, ↓dLst_u, ↓dLstO_u, ↓dSl_u, ↓dNoPart_u, ↓dRev_u, ↓dYes_u, ↓dDic0_u, ↓dLc_u, ↓dEnum_u, ↓dZip_u, ↓gtName_u, ↓dSortSet_u, ↓dSetK_u, ↓dDisp_u, ↓dVar_m, ↓dTru_m, ↓dAnd_m, ↓dOr_m, ↓dNot_m, ↓dChain_m, ↓dIter_m, ↓dRange1_m, ↓dPart_m, ↓gtCons_m, ↓gtNil_m, ↓gtTup_m, ↓sPar_m, ↓oAdd_m, ↓oInt_m, ↓oNeg_m, ↓oOrd_m, ↓oIx_m, ↓oLen_m, ↓oToInt_m, ↓oToTup_m, ↓oToList_m, ↓oGet1_m, ↓oUpper_m, ↓oToStr_m, ↓oPop_m, ↓oAppend_m, ↓oPut_m, ↓oSIndex_m, ↓atI_m, ↓getK_m, ↓oSl, ↓oRev, ↓oIsi_T, ↓oMax2I, ↓oMulI, ↓eqI, ↓eqS, ↓eqL, ↓eqT, ↓neI, ↓neS, ↓neL, ↓neT, vw_non, vw_bl, vw_int, vw_str, vw_tup, vw_lst, vw_dic, vw_raw, vw_obj, truD, keyD, itemsOf, mthTy, lenD, seqD, List.map_cons, List.map_nil, List.cons_append, List.nil_append, List.getElem?_cons_zero, List.getElem?_cons_succ, List.getElem?_nil, List.set_cons_zero, List.set_cons_succ, List.length_cons, List.length_nil, ↓reduceIte, Bool.not_true, Bool.not_false, Bool.false_eq_true, true_and, and_true, List.replicate_zero, List.replicate_succ, List.append_nil, ↓sp1_m, ↓spRow_m, ↓spRis_m, ↓spPl_m, ↓spPg_m, ↓spDraw_m, ↓spDrw_m, ↓yes_m, ↓spBetween_m, ↓spNeed_m, ↓in2, ↓oMulT_m, ↓oDPop_m]
        refine hN _ _ ⟨_, _, rfl, ?_, hf.trans h2⟩
        rw [foldS_take hr]; exact h1
    · rintro env M' ⟨a, b, rfl, hp, hf⟩
      refine ⟨trivial, ?_⟩
      simp only [↓sSeq_u, ↓sNext_u, ↓sBreak_u, ↓sCont_u, ↓sDrop_u, ↓sRet_u, ↓sRetN_u, ↓sIf_u, ↓sAsg_u, ↓sPut_u, ↓sFor_u, ↓dC_u, ↓dNil_u, ↓dCons_u, ↓dBlt_u, ↓dOp2_u, ↓dUn_u, ↓dMeth_u, ↓dCall_u, ↓dCallK_u, ↓dNotT_u, ↓dAndT_u, ↓dOrT_u, ↓dIf_u, ↓dTup_u, ↓dLst_u, ↓dLstO_u, ↓dSl_u, ↓dNoPart_u, ↓dRev_u, ↓dYes_u, ↓dDic0_u, ↓dLc_u, ↓dEnum_u, ↓dZip_u, ↓gtName_u, ↓dSortSet_u, ↓dSetK_u, ↓dDisp_u, ↓dVar_m, ↓dTru_m, ↓dAnd_m, ↓dOr_m, ↓dNot_m, ↓dChain_m, ↓dIter_m, ↓dRange1_m, ↓dPart_m, ↓gtCons_m, ↓gtNil_m, ↓gtTup_m, ↓sPar_m, ↓oAdd_m, ↓oInt_m, ↓oNeg_m, ↓oOrd_m, ↓oIx_m, ↓oLen_m, ↓oToInt_m, ↓oToTup_m, ↓oToList_m, ↓oGet1_m, ↓oUpper_m, ↓oToStr_m, ↓oPop_m, ↓oAppend_m, ↓oPut_m, ↓oSIndex_m, ↓atI_m, ↓getK_m, ↓oSl, ↓oRev, ↓oIsi_T, ↓oMax2I, ↓oMulI, ↓eqI, ↓eqS, ↓eqL, ↓eqT, ↓neI, ↓neS, ↓neL, ↓neT, vw_non, vw_bl, vw_int, vw_str, vw_tup, vw_lst, vw_dic, vw_raw, vw_obj, truD, keyD, itemsOf, mthTy, lenD, seqD, List.map_cons, List.map_nil, List.cons_append, List.nil_append, List.getElem?_cons_zero, List.getElem?_cons_succ, List.getElem?_nil, List.set_cons_zero, List.set_cons_succ, List.length_cons, List.length_nil, ↓reduceIte, Bool.not_true, Bool.not_false, Bool.false_eq_true, true_and, and_true, List.replicate_zero, List.replicate_succ, List.append_nil, ↓sp1_m, ↓spRow_m, ↓spRis_m, ↓spPl_m, ↓spPg_m, ↓spDraw_m, ↓spDrw_m, ↓yes_m, ↓spBetween_m, ↓spNeed_m, ↓in2, ↓oMulT_m, ↓oDPop_m]
      have e : (enumD (rs.map Rw.D)).length = rs.length := by simp [enumD]
      rw [e, List.take_length] at hp
      exact q M' hp hf
  · simp only [td_law_do_all, ↓sSeq_u, ↓sNext_u, ↓sBreak_u, ↓sCont_u, ↓sDrop_u, ↓sRet_u, ↓sRetN_u, ↓sIf_u, ↓sAsg_u, ↓sPut_u, ↓sFor_u, ↓dC_u, ↓dNil_u, ↓dCons_u, ↓dBlt_u, ↓dOp2_u, ↓dUn_u, ↓dMeth_u, ↓dCall_u, ↓dCallK_u, ↓dNotT_u, ↓dAndT_u, ↓dOrT_u, ↓dIf_u, ↓dTup_u, ↓dLst_u, ↓dLstO_u, ↓dSl_u, ↓dNoPart_u, ↓dRev_u, ↓dYes_u, ↓dDic0_u, ↓dLc_u, ↓dEnum_u, ↓dZip_u, ↓gtName_u, ↓dSortSet_u, ↓dSetK_u, ↓dDisp_u, ↓dVar_m, ↓dTru_m, ↓dAnd_m, ↓dOr_m, ↓dNot_m, ↓dChain_m, ↓dIter_m, ↓dRange1_m, ↓dPart_m, ↓gtCons_m, ↓gtNil_m, ↓gtTup_m, ↓sPar_m, ↓oAdd_m, ↓oInt_m, ↓oNeg_m, ↓oOrd_m, ↓oIx_m, ↓oLen_m, ↓oToInt_m, ↓oToTup_m, ↓oToList_m, ↓oGet1_m, ↓oUpper_m, ↓oToStr_m, ↓oPop_m, ↓oAppend_m, ↓oPut_m, ↓oSIndex_m, ↓atI_m, ↓getK_m, ↓oSl, ↓oRev, ↓oIsi_T, ↓oMax2I, ↓oMulI, ↓eqI, ↓eqS, ↓eqL, ↓eqT, ↓neI, ↓neS, ↓neL, ↓neT, vw_non, vw_bl, vw_int, vw_str, vw_tup, vw_lst, vw_dic, vw_raw, vw_obj, truD, keyD, itemsOf, mthTy, lenD, seqD, List.map_cons, List.map_nil, List.cons_append, List.nil_append, List.getElem?_cons_zero, List.getElem?_cons_succ, List.getElem?_nil, List.set_cons_zero, List.set_cons_succ, List.length_cons, List.length_nil, ↓reduceIte, Bool.not_true, Bool.not_false, Bool.false_eq_true, true_and, and_true, List.replicate_zero, List.replicate_succ, List.append_nil, ↓sp1_m, ↓spRow_m, ↓spRis_m, ↓spPl_m, ↓spPg_m, ↓spDraw_m, ↓spDrw_m, ↓yes_m, ↓spBetween_m, ↓spNeed_m, ↓in2, ↓oMulT_m, ↓oDPop_m]
    refine .inr ⟨_, rfl, ?_⟩
    refine forGo_inv (fun i env M' => ∃ (a b : Option D), env = [some (.obj t), some (.tup (rs.map Rw.D)), a, b] ∧ TbR M' t m (foldS m 1 (rs.take i) σ) ∧ Frame t M M') ?_ ?_ ⟨none, none, rfl, hT, Frame.refl _ _⟩
    · rintro i x env M' hx ⟨a, b, rfl, hp, hf⟩ N hN
      unfold enumD at hx
      rw [List.getElem?_mapIdx, List.getElem?_map] at hx
      cases hr : rs[i]? with
      | none => rw [hr] at hx; cases hx
      | some r =>
        rw [hr] at hx
        simp only [Option.map_some, Option.some.injEq] at hx
        subst hx
        have hi := (List.getElem?_eq_some_iff.mp hr).1
        refine ⟨trivial, ?_⟩
        simp only [↓sSeq_u, ↓sNext_u, ↓sBreak_u, ↓sCont_u, ↓sDrop_u, ↓sRet_u, ↓sRetN_u, ↓sIf_u, ↓sAsg_u, ↓sPut_u, ↓sFor_u, ↓dC_u, ↓dNil_u, ↓dCons_u, ↓dBlt_u, ↓dOp2_u, ↓dUn_u, ↓dMeth_u, ↓dCall_u, ↓dCallK_u, ↓dNotT_u, ↓dAndT_u, ↓dOrT_u, ↓dIf_u, ↓dTup_u, ↓dLst_u, ↓dLstO_u, ↓dSl_u, ↓dNoPart_u, ↓dRev_u, ↓dYes_u, ↓dDic0_u, ↓dLc_u, ↓dEnum_u, ↓dZip_u, ↓gtName_u, ↓dSortSet_u, ↓dSetK_u, ↓dDisp_u, ↓dVar_m, ↓dTru_m, ↓dAnd_m, ↓dOr_m, ↓dNot_m, ↓dChain_m, ↓dIter_m, ↓dRange1_m, ↓dPart_m, ↓gtCons_m, ↓gtNil_m, ↓gtTup_m, ↓sPar_m, ↓oAdd_m, ↓oInt_m, ↓oNeg_m, ↓oOrd_m, ↓oIx_m, ↓oLen_m, ↓oToInt_m, ↓oToTup_m, ↓oToList_m, ↓oGet1_m, ↓oUpper_m, ↓oToStr_m, ↓oPop_m, ↓oAppend_m, ↓oPut_m, ↓oSIndex_m, ↓atI_m, ↓getK_m, ↓oSl, ↓oRev, ↓oIsi_T, ↓oMax2I, ↓oMulI, ↓eqI, ↓eqS, ↓eqL, ↓eqT, ↓neI, ↓neS, ↓neL, ↓neT, vw_non, vw_bl, vw_int, vw_str, vw_tup, vw_lst, vw_dic, vw_raw, vw_obj, truD, keyD, itemsOf, mthTy, lenD, seqD, List.map_cons, List.map_nil, List.cons_append, List.nil_append, List.getElem?_cons_zero, List.getElem?_cons_succ, List.getElem?_nil, List.set_cons_zero, List.set_cons_succ, List.length_cons, List.length_nil, ↓reduceIte, Bool.not_true, Bool.not_false, Bool.false_eq_true, true_and, and_true, List.replicate_zero, List.replicate_succ, List.append_nil, ↓sp1_m, ↓spRow_m, ↓spRis_m, ↓spPl_m, ↓spPg_m, ↓spDraw_m, ↓spDrw_m, ↓yes_m, ↓spBetween_m, ↓spNeed_m, ↓in2, ↓oMulT_m, ↓oDPop_m]
        refine ⟨t, m, _, _, r, rfl, ⟨hp, hm, ⟨by omega, by omega⟩, ho r (List.mem_of_getElem? hr)⟩, fun M2 h1 h2 => ?_⟩
        simp only [↓sSeq_u, ↓sNext_u, ↓sBreak_u, ↓sCont_u, ↓sDrop_u, ↓sRet_u, ↓sRetN_u, ↓sIf_u, ↓sAsg_u, ↓sPut_u, ↓sFor_u, ↓dC_u, ↓dNil_u, ↓dCons_u, ↓dBlt_u, ↓dOp2_u, ↓dUn_u, ↓dMeth_u, ↓dCall_u, ↓dCallK_u, ↓dNotT_u, ↓dAndT_u, ↓dOrT_u, ↓dIf_u, ↓dTup_u, ↓dLst_u, ↓dLstO_u, ↓dSl_u, ↓dNoPart_u, ↓dRev_u, ↓dYes_u, ↓dDic0_u, ↓dLc_u, ↓dEnum_u, ↓dZip_u, ↓gtName_u, ↓dSortSet_u, ↓dSetK_u, ↓dDisp_u, ↓dVar_m, ↓dTru_m, ↓dAnd_m, ↓dOr_m, ↓dNot_m, ↓dChain_m, ↓dIter_m, ↓dRange1_m, ↓dPart_m, ↓gtCons_m, ↓gtNil_m, ↓gtTup_m, ↓sPar_m, ↓oAdd_m, ↓oInt_m, ↓oNeg_m, ↓oOrd_m, ↓oIx_m, ↓oLen_m, ↓oToInt_m, ↓oToTup_m, ↓oToList_m, ↓oGet1_m, ↓oUpper_m, ↓oToStr_m, ↓oPop_m, ↓oAppend_m, ↓oPut_m, ↓oSIndex_m, ↓atI_m, ↓getK_m, ↓oSl, ↓oRev, ↓oIsi_T, ↓oMax2I, ↓oMulI, ↓eqI, ↓eqS, ↓eqL, ↓eqT, ↓neI, ↓neS, ↓neL, ↓neT, vw_non, vw_bl, vw_int, vw_str, vw_tup, vw_lst, vw_dic, vw_raw, vw_obj, truD, keyD, itemsOf, mthTy, lenD, seqD, List.map_cons, List.map_nil, List.cons_append, List.nil_append, List.getElem?_cons_zero, List.getElem?_cons_succ, List.getElem?_nil, List.set_cons_zero, List.set_cons_succ, List.length_cons, List.length_nil, ↓reduceIte, Bool.not_true, Bool.not_false, Bool.false_eq_true, true_and, and_true, List.replicate_zero, List.replicate_succ, List.append_nil, ↓sp1_m, ↓spRow_m, ↓spRis_m, ↓spPl_m, ↓spPg_m, ↓spDraw_m, ↓spDrw_m, ↓yes_m, ↓spBetween_m, ↓spNeed_m, ↓in2, ↓oMulT_m, ↓oDPop_m]
        refine hN _ _ ⟨_, _, rfl, ?_, hf.trans h2⟩
        rw [foldS_take hr]; exact h1
    · rintro env M' ⟨a, b, rfl, hp, hf⟩
      refine ⟨trivial, ?_⟩
      simp only [↓sSeq_u, ↓sNext_u, ↓sBreak_u, ↓sCont_u, ↓sDrop_u, ↓sRet_u, ↓sRetN_u, ↓sIf_u, ↓sAsg_u, ↓sPut_u, ↓sFor_u, ↓dC_u, ↓dNil_u, ↓dCons_u, ↓dBlt_u, ↓dOp2_u, ↓dUn_u, ↓dMeth_u, ↓dCall_u, ↓dCallK_u, ↓dNotT_u, ↓dAndT_u, ↓dOrT_u, ↓dIf_u, ↓dTup_u, ↓dLst_u, ↓dLstO_u, ↓dSl_u, ↓dNoPart_u, ↓dRev_u, ↓dYes_u, ↓dDic0_u, ↓dLc_u, ↓dEnum_u, ↓dZip_u, ↓gtName_u, ↓dSortSet_u, ↓dSetK_u, ↓dDisp_u, ↓dVar_m, ↓dTru_m, ↓dAnd_m, ↓dOr_m, ↓dNot_m, ↓dChain_m, ↓dIter_m, ↓dRange1_m, ↓dPart_m, ↓gtCons_m, ↓gtNil_m, ↓gtTup_m, ↓sPar_m, ↓oAdd_m, ↓oInt_m, ↓oNeg_m, ↓oOrd_m, ↓oIx_m, ↓oLen_m, ↓oToInt_m, ↓oToTup_m, ↓oToList_m, ↓oGet1_m, ↓oUpper_m, ↓oToStr_m, ↓oPop_m, ↓oAppend_m, ↓oPut_m, ↓oSIndex_m, ↓atI_m, ↓getK_m, ↓oSl, ↓oRev, ↓oIsi_T, ↓oMax2I, ↓oMulI, ↓eqI, ↓eqS, ↓eqL, ↓eqT, ↓neI, ↓neS, ↓neL, ↓neT, vw_non, vw_bl, vw_int, vw_str, vw_tup, vw_lst, vw_dic, vw_raw, vw_obj, truD, keyD, itemsOf, mthTy, lenD, seqD, List.map_cons, List.map_nil, List.cons_append, List.nil_append, List.getElem?_cons_zero, List.getElem?_cons_succ, List.getElem?_nil, List.set_cons_zero, List.set_cons_succ, List.length_cons, List.length_nil, ↓reduceIte, Bool.not_true, Bool.not_false, Bool.false_eq_true, true_and, and_true, List.replicate_zero, List.replicate_succ, List.append_nil, ↓sp1_m, ↓spRow_m, ↓spRis_m, ↓spPl_m, ↓spPg_m, ↓spDraw_m, ↓spDrw_m, ↓yes_m, ↓spBetween_m, ↓spNeed_m, ↓in2, ↓oMulT_m, ↓oDPop_m]
      have e : (enumD (rs.map Rw.D)).length = rs.length := by simp [enumD]
      rw [e, List.take_length] at hp
      exact q M' hp hf
/-- the table told as pages -/
def spTold : DSp := fun M ds Q => ∃ (t m : Nat) (σ : Sg), ds = [.obj t] ∧ (TbR M t m σ ∧ 1 ≤ m ∧ m ≤ 8) ∧ ∀ pgs, PgsR m σ pgs → Q (.tup pgs) M
def toldD (M : St3) : D → D
  | .tup [.int l, dd] => match vw M dd with
    | .dic ks es => .tup [.int l, .tup ((sortS (ks.filterMap fun k => match k with | .inr x => some x | .inl _ => none)).map fun x => .tup [.str x, (getK ks es (.inr x)).getD .non])]
    | _ => .non
  | _ => .non
theorem ksK_back (ks : List Str) : (ksK ks).filterMap (fun k => match k with | .inr x => some x | .inl _ => none) = ks := by
  unfold ksK
  rw [List.filterMap_map]
  exact List.filterMap_some ..
theorem told_R {M : St3} {t : Nat} {m : Int} {a : Nat} {p : Pg} {e : D} (h : PtR M t m a p e) : PgR m a p (toldD M e) := by
  obtain ⟨S, dd, rfl, hS, hl, hv, _⟩ := h
  refine ⟨S, hS, hl, ?_⟩
  simp only [toldD, hv, ksK_back]
  congr 4
  refine List.map_congr_left fun x hx => ?_
  rw [getC_in (sortS_mem.mp hx)]
  show D.tup [.str x, oD (p.2 x)] = _
  rw [oD_nI ((hS.me x).mp (sortS_mem.mp hx))]
  rfl
theorem dl_law_told_pages {M : St3} {ds : List D} {Q : KD} (h : spTold M ds Q) : td_law_told_pages (E0 Q) (ds.map some ++ List.replicate 3 none) M := by
  obtain ⟨t, m, σ, rfl, ⟨⟨es, hM, hlen, hP⟩, m1, m8⟩, q⟩ := h
  have z : ∀ k, k ≤ 3000 → k ≤ sizeLine := fun k h => sz_le (by omega)
  simp only [td_law_told_pages, hM, ↓sSeq_u, ↓sNext_u, ↓sBreak_u, ↓sCont_u, ↓sDrop_u, ↓sRet_u, ↓sRetN_u, ↓sIf_u, ↓sAsg_u, ↓sPut_u, ↓sFor_u, ↓dC_u, ↓dNil_u, ↓dCons_u, ↓dBlt_u, ↓dOp2_u, ↓dUn_u, ↓dMeth_u, ↓dCall_u, ↓dCallK_u, ↓dNotT_u, ↓dAndT_u, ↓dOrT_u, ↓dIf_u, ↓dTup_u, ↓dLst_u, ↓dLstO_u, ↓dSl_u, ↓dNoPart_u, ↓dRev_u, ↓dYes_u, ↓dDic0_u, ↓dLc_u, ↓dEnum_u, ↓dZip_u, ↓gtName_u, ↓dSortSet_u, ↓dSetK_u, ↓dDisp_u, ↓dVar_m, ↓dTru_m, ↓dAnd_m, ↓dOr_m, ↓dNot_m, ↓dChain_m, ↓dIter_m, ↓dRange1_m, ↓dPart_m, ↓gtCons_m, ↓gtNil_m, ↓gtTup_m, ↓sPar_m, ↓oAdd_m, ↓oInt_m, ↓oNeg_m, ↓oOrd_m, ↓oIx_m, ↓oLen_m, ↓oToInt_m, ↓oToTup_m, ↓oToList_m, ↓oGet1_m, ↓oUpper_m, ↓oToStr_m, ↓oPop_m, ↓oAppend_m, ↓oPut_m, ↓oSIndex_m, ↓atI_m, ↓getK_m, ↓oSl, ↓oRev, ↓oIsi_T, ↓oMax2I, ↓oMulI, ↓eqI, ↓eqS, ↓eqL, ↓eqT, ↓neI, ↓neS, ↓neL, ↓neT, vw_non, vw_bl, vw_int, vw_str, vw_tup, vw_lst, vw_dic, vw_raw, vw_obj, truD, keyD, itemsOf, mthTy, lenD, seqD, List.map_cons, List.map_nil, List.cons_append, List.nil_append, List.getElem?_cons_zero, List.getElem?_cons_succ, List.getElem?_nil, List.set_cons_zero, List.set_cons_succ, List.length_cons, List.length_nil, ↓reduceIte, Bool.not_true, Bool.not_false, Bool.false_eq_true, true_and, and_true, List.replicate_zero, List.replicate_succ, List.append_nil, ↓sp1_m, ↓spRow_m, ↓spRis_m, ↓spPl_m, ↓spPg_m, ↓spDraw_m, ↓spDrw_m, ↓yes_m, ↓spBetween_m, ↓spNeed_m, ↓in2, ↓oMulT_m, ↓oDPop_m]
  refine lcGo_pure (fun _ => true) (toldD M) hM (z _ (by simp only [List.length_nil]; omega)) (fun y hy Kn Ks k1 k2 => ?_) ?_
  · obtain ⟨a, ha⟩ := List.getElem?_of_mem hy
    have hp := hP a y ha
    have hT := told_R hp
    obtain ⟨S, dd, rfl, hS, hl, hv, _⟩ := hp
    have h8 := hS.len
    simp only [↓sSeq_u, ↓sNext_u, ↓sBreak_u, ↓sCont_u, ↓sDrop_u, ↓sRet_u, ↓sRetN_u, ↓sIf_u, ↓sAsg_u, ↓sPut_u, ↓sFor_u, ↓dC_u, ↓dNil_u, ↓dCons_u, ↓dBlt_u, ↓dOp2_u, ↓dUn_u, ↓dMeth_u, ↓dCall_u, ↓dCallK_u, ↓dNotT_u, ↓dAndT_u, ↓dOrT_u, ↓dIf_u, ↓dTup_u, ↓dLst_u, ↓dLstO_u, ↓dSl_u, ↓dNoPart_u, ↓dRev_u, ↓dYes_u, ↓dDic0_u, ↓dLc_u, ↓dEnum_u, ↓dZip_u, ↓gtName_u, ↓dSortSet_u, ↓dSetK_u, ↓dDisp_u, ↓dVar_m, ↓dTru_m, ↓dAnd_m, ↓dOr_m, ↓dNot_m, ↓dChain_m, ↓dIter_m, ↓dRange1_m, ↓dPart_m, ↓gtCons_m, ↓gtNil_m, ↓gtTup_m, ↓sPar_m, ↓oAdd_m, ↓oInt_m, ↓oNeg_m, ↓oOrd_m, ↓oIx_m, ↓oLen_m, ↓oToInt_m, ↓oToTup_m, ↓oToList_m, ↓oGet1_m, ↓oUpper_m, ↓oToStr_m, ↓oPop_m, ↓oAppend_m, ↓oPut_m, ↓oSIndex_m, ↓atI_m, ↓getK_m, ↓oSl, ↓oRev, ↓oIsi_T, ↓oMax2I, ↓oMulI, ↓eqI, ↓eqS, ↓eqL, ↓eqT, ↓neI, ↓neS, ↓neL, ↓neT, vw_non, vw_bl, vw_int, vw_str, vw_tup, vw_lst, vw_dic, vw_raw, vw_obj, truD, keyD, itemsOf, mthTy, lenD, seqD, List.map_cons, List.map_nil, List.cons_append, List.nil_append, List.getElem?_cons_zero, List.getElem?_cons_succ, List.getElem?_nil, List.set_cons_zero, List.set_cons_succ, List.length_cons, List.length_nil, ↓reduceIte, Bool.not_true, Bool.not_false, Bool.false_eq_true, true_and, and_true, List.replicate_zero, List.replicate_succ, List.append_nil, ↓sp1_m, ↓spRow_m, ↓spRis_m, ↓spPl_m, ↓spPg_m, ↓spDraw_m, ↓spDrw_m, ↓yes_m, ↓spBetween_m, ↓spNeed_m, ↓in2, ↓oMulT_m, ↓oDPop_m, wipe3]
    refine sorted_dict hv (fun x hx => by have := word_len (hS.wd hx); omega) ?_
    simp only [↓sSeq_u, ↓sNext_u, ↓sBreak_u, ↓sCont_u, ↓sDrop_u, ↓sRet_u, ↓sRetN_u, ↓sIf_u, ↓sAsg_u, ↓sPut_u, ↓sFor_u, ↓dC_u, ↓dNil_u, ↓dCons_u, ↓dBlt_u, ↓dOp2_u, ↓dUn_u, ↓dMeth_u, ↓dCall_u, ↓dCallK_u, ↓dNotT_u, ↓dAndT_u, ↓dOrT_u, ↓dIf_u, ↓dTup_u, ↓dLst_u, ↓dLstO_u, ↓dSl_u, ↓dNoPart_u, ↓dRev_u, ↓dYes_u, ↓dDic0_u, ↓dLc_u, ↓dEnum_u, ↓dZip_u, ↓gtName_u, ↓dSortSet_u, ↓dSetK_u, ↓dDisp_u, ↓dVar_m, ↓dTru_m, ↓dAnd_m, ↓dOr_m, ↓dNot_m, ↓dChain_m, ↓dIter_m, ↓dRange1_m, ↓dPart_m, ↓gtCons_m, ↓gtNil_m, ↓gtTup_m, ↓sPar_m, ↓oAdd_m, ↓oInt_m, ↓oNeg_m, ↓oOrd_m, ↓oIx_m, ↓oLen_m, ↓oToInt_m, ↓oToTup_m, ↓oToList_m, ↓oGet1_m, ↓oUpper_m, ↓oToStr_m, ↓oPop_m, ↓oAppend_m, ↓oPut_m, ↓oSIndex_m, ↓atI_m, ↓getK_m, ↓oSl, ↓oRev, ↓oIsi_T, ↓oMax2I, ↓oMulI, ↓eqI, ↓eqS, ↓eqL, ↓eqT, ↓neI, ↓neS, ↓neL, ↓neT, vw_non, vw_bl, vw_int, vw_str, vw_tup, vw_lst, vw_dic, vw_raw, vw_obj, truD, keyD, itemsOf, mthTy, lenD, seqD, List.map_cons, List.map_nil, List.cons_append, List.nil_append, List.getElem?_cons_zero, List.getElem?_cons_succ, List.getElem?_nil, List.set_cons_zero, List.set_cons_succ, List.length_cons, List.length_nil, ↓reduceIte, Bool.not_true, Bool.not_false, Bool.false_eq_true, true_and, and_true, List.replicate_zero, List.replicate_succ, List.append_nil, ↓sp1_m, ↓spRow_m, ↓spRis_m, ↓spPl_m, ↓spPg_m, ↓spDraw_m, ↓spDrw_m, ↓yes_m, ↓spBetween_m, ↓spNeed_m, ↓in2, ↓oMulT_m, ↓oDPop_m]
    refine lcGo_pure (fun _ => true) (fun d => match d with | .str x => .tup [.str x, oD ((σ a).2 x)] | _ => .non) trivial (z _ (by simp only [List.length_map, sortS_len, List.length_nil]; omega)) (fun y hy Kn Ks k1 k2 => ?_) ?_
    · obtain ⟨x, hx, rfl⟩ := List.mem_map.mp hy
      have g := getC_in (c := fun y => oD ((σ a).2 y)) (sortS_mem.mp hx)
      simp only [↓sSeq_u, ↓sNext_u, ↓sBreak_u, ↓sCont_u, ↓sDrop_u, ↓sRet_u, ↓sRetN_u, ↓sIf_u, ↓sAsg_u, ↓sPut_u, ↓sFor_u, ↓dC_u, ↓dNil_u, ↓dCons_u, ↓dBlt_u, ↓dOp2_u, ↓dUn_u, ↓dMeth_u, ↓dCall_u, ↓dCallK_u, ↓dNotT_u, ↓dAndT_u, ↓dOrT_u, ↓dIf_u, ↓dTup_u, ↓dLst_u, ↓dLstO_u, ↓dSl_u, ↓dNoPart_u, ↓dRev_u, ↓dYes_u, ↓dDic0_u, ↓dLc_u, ↓dEnum_u, ↓dZip_u, ↓gtName_u, ↓dSortSet_u, ↓dSetK_u, ↓dDisp_u, ↓dVar_m, ↓dTru_m, ↓dAnd_m, ↓dOr_m, ↓dNot_m, ↓dChain_m, ↓dIter_m, ↓dRange1_m, ↓dPart_m, ↓gtCons_m, ↓gtNil_m, ↓gtTup_m, ↓sPar_m, ↓oAdd_m, ↓oInt_m, ↓oNeg_m, ↓oOrd_m, ↓oIx_m, ↓oLen_m, ↓oToInt_m, ↓oToTup_m, ↓oToList_m, ↓oGet1_m, ↓oUpper_m, ↓oToStr_m, ↓oPop_m, ↓oAppend_m, ↓oPut_m, ↓oSIndex_m, ↓atI_m, ↓getK_m, ↓oSl, ↓oRev, ↓oIsi_T, ↓oMax2I, ↓oMulI, ↓eqI, ↓eqS, ↓eqL, ↓eqT, ↓neI, ↓neS, ↓neL, ↓neT, vw_non, vw_bl, vw_int, vw_str, vw_tup, vw_lst, vw_dic, vw_raw, vw_obj, truD, keyD, itemsOf, mthTy, lenD, seqD, List.map_cons, List.map_nil, List.cons_append, List.nil_append, List.getElem?_cons_zero, List.getElem?_cons_succ, List.getElem?_nil, List.set_cons_zero, List.set_cons_succ, List.length_cons, List.length_nil, ↓reduceIte, Bool.not_true, Bool.not_false, Bool.false_eq_true, true_and, and_true, List.replicate_zero, List.replicate_succ, List.append_nil, ↓sp1_m, ↓spRow_m, ↓spRis_m, ↓spPl_m, ↓spPg_m, ↓spDraw_m, ↓spDrw_m, ↓yes_m, ↓spBetween_m, ↓spNeed_m, ↓in2, ↓oMulT_m, ↓oDPop_m, wipe3, hv, g]
      exact ⟨z _ (by decide), k1 rfl⟩
    · rw [filter_T, List.map_map]
      simp only [↓reduceIte, ↓sSeq_u, ↓sNext_u, ↓sBreak_u, ↓sCont_u, ↓sDrop_u, ↓sRet_u, ↓sRetN_u, ↓sIf_u, ↓sAsg_u, ↓sPut_u, ↓sFor_u, ↓dC_u, ↓dNil_u, ↓dCons_u, ↓dBlt_u, ↓dOp2_u, ↓dUn_u, ↓dMeth_u, ↓dCall_u, ↓dCallK_u, ↓dNotT_u, ↓dAndT_u, ↓dOrT_u, ↓dIf_u, ↓dTup_u, ↓dLst_u, ↓dLstO_u, ↓dSl_u, ↓dNoPart_u, ↓dRev_u, ↓dYes_u, ↓dDic0_u, ↓dLc_u, ↓dEnum_u, ↓dZip_u, ↓gtName_u, ↓dSortSet_u, ↓dSetK_u, ↓dDisp_u, ↓dVar_m, ↓dTru_m, ↓dAnd_m, ↓dOr_m, ↓dNot_m, ↓dChain_m, ↓dIter_m, ↓dRange1_m, ↓dPart_m, ↓gtCons_m, ↓gtNil_m, ↓gtTup_m, ↓sPar_m, ↓oAdd_m, ↓oInt_m, ↓oNeg_m, ↓oOrd_m, ↓oIx_m, ↓oLen_m, ↓oToInt_m, ↓oToTup_m, ↓oToList_m, ↓oGet1_m, ↓oUpper_m, ↓oToStr_m, ↓oPop_m, ↓oAppend_m, ↓oPut_m, ↓oSIndex_m, ↓atI_m, ↓getK_m, ↓oSl, ↓oRev, ↓oIsi_T, ↓oMax2I, ↓oMulI, ↓eqI, ↓eqS, ↓eqL, ↓eqT, ↓neI, ↓neS, ↓neL, ↓neT, vw_non, vw_bl, vw_int, vw_str, vw_tup, vw_lst, vw_dic, vw_raw, vw_obj, truD, keyD, itemsOf, mthTy, lenD, seqD, List.map_cons, List.map_nil, List.cons_append, List.nil_append, List.getElem?_cons_zero, List.getElem?_cons_succ, List.getElem?_nil, List.set_cons_zero, List.set_cons_succ, List.length_cons, List.length_nil, ↓reduceIte, Bool.not_true, Bool.not_false, Bool.false_eq_true, true_and, and_true, List.replicate_zero, List.replicate_succ, List.append_nil, ↓sp1_m, ↓spRow_m, ↓spRis_m, ↓spPl_m, ↓spPg_m, ↓spDraw_m, ↓spDrw_m, ↓yes_m, ↓spBetween_m, ↓spNeed_m, ↓in2, ↓oMulT_m, ↓oDPop_m]
      refine ⟨z _ (by decide), ?_⟩
      have e : toldD M (.tup [.int (σ a).1, dd]) = .tup [.int (σ a).1, .tup ((sortS S).map ((fun d => match d with | .str x => D.tup [.str x, oD ((σ a).2 x)] | _ => .non) ∘ D.str))] := by
        simp only [toldD, hv, ksK_back]
        congr 4
        refine List.map_congr_left fun x hx => ?_
        rw [getC_in (sortS_mem.mp hx)]
        rfl
      rw [← e]; exact k1 rfl
  · rw [filter_T]
    simp only [↓reduceIte, ↓sSeq_u, ↓sNext_u, ↓sBreak_u, ↓sCont_u, ↓sDrop_u, ↓sRet_u, ↓sRetN_u, ↓sIf_u, ↓sAsg_u, ↓sPut_u, ↓sFor_u, ↓dC_u, ↓dNil_u, ↓dCons_u, ↓dBlt_u, ↓dOp2_u, ↓dUn_u, ↓dMeth_u, ↓dCall_u, ↓dCallK_u, ↓dNotT_u, ↓dAndT_u, ↓dOrT_u, ↓dIf_u, ↓dTup_u, ↓dLst_u, ↓dLstO_u, ↓dSl_u, ↓dNoPart_u, ↓dRev_u, ↓dYes_u, ↓dDic0_u, ↓dLc_u, ↓dEnum_u, ↓dZip_u, ↓gtName_u, ↓dSortSet_u, ↓dSetK_u, ↓dDisp_u, ↓dVar_m, ↓dTru_m, ↓dAnd_m, ↓dOr_m, ↓dNot_m, ↓dChain_m, ↓dIter_m, ↓dRange1_m, ↓dPart_m, ↓gtCons_m, ↓gtNil_m, ↓gtTup_m, ↓sPar_m, ↓oAdd_m, ↓oInt_m, ↓oNeg_m, ↓oOrd_m, ↓oIx_m, ↓oLen_m, ↓oToInt_m, ↓oToTup_m, ↓oToList_m, ↓oGet1_m, ↓oUpper_m, ↓oToStr_m, ↓oPop_m, ↓oAppend_m, ↓oPut_m, ↓oSIndex_m, ↓atI_m, ↓getK_m, ↓oSl, ↓oRev, ↓oIsi_T, ↓oMax2I, ↓oMulI, ↓eqI, ↓eqS, ↓eqL, ↓eqT, ↓neI, ↓neS, ↓neL, ↓neT, vw_non, vw_bl, vw_int, vw_str, vw_tup, vw_lst, vw_dic, vw_raw, vw_obj, truD, keyD, itemsOf, mthTy, lenD, seqD, List.map_cons, List.map_nil, List.cons_append, List.nil_append, List.getElem?_cons_zero, List.getElem?_cons_succ, List.getElem?_nil, List.set_cons_zero, List.set_cons_succ, List.length_cons, List.length_nil, ↓reduceIte, Bool.not_true, Bool.not_false, Bool.false_eq_true, true_and, and_true, List.replicate_zero, List.replicate_succ, List.append_nil, ↓sp1_m, ↓spRow_m, ↓spRis_m, ↓spPl_m, ↓spPg_m, ↓spDraw_m, ↓spDrw_m, ↓yes_m, ↓spBetween_m, ↓spNeed_m, ↓in2, ↓oMulT_m, ↓oDPop_m]
    refine q _ ⟨by simpa using hlen, fun a d hd => ?_⟩
    rw [List.getElem?_map] at hd
    cases he : es[a]? with
    | none => rw [he] at hd; cases hd
    | some e =>
      rw [he] at hd
      cases hd
      exact told_R (hP a e he)
/-- the worths by rows -/
def spLW : DSp := fun M ds Q => ∃ rs : List Rw, ds = [.lst (rs.map Rw.D)] ∧ (rs.length ≤ 100 ∧ ∀ r ∈ rs, r.ok) ∧ ∀ d X, WR (lastW rs) d → Q d (M ++ X)
theorem lastF_app : ∀ (A : List Rw) (r : Rw) (f : Str → Option Int), lastF f (A ++ [r]) = match r.touch with | some (k, w) => upd1 (lastF f A) k w | none => lastF f A
  | [], r, f => rfl
  | a :: A, r, f => by
    simp only [List.cons_append, lastF]
    exact lastF_app A r _
theorem lastF_v : ∀ (rs : List Rw) (f : Str → Option Int), (∀ k, wv (f k)) → (∀ r ∈ rs, r.ok) → ∀ k, wv (lastF f rs k)
  | [], _, h, _, k => h k
  | r :: rs, f, h, ho, k => by
    simp only [lastF]
    refine lastF_v rs _ (fun y => ?_) (fun q hq => ho q (by simp [hq])) k
    cases ht : r.touch with
    | none => exact h y
    | some kw =>
      obtain ⟨k', w⟩ := kw
      show wv (upd1 f k' w y)
      unfold upd1
      split
      · exact (touchD ht (ho r (by simp))).2.1
      · exact h y
theorem dl_law_worths {M : St3} {ds : List D} {Q : KD} (h : spLW M ds Q) : td_law_worths (E0 Q) (ds.map some ++ List.replicate 3 none) M := by
  obtain ⟨rs, rfl, ⟨hl, ho⟩, q⟩ := h
  have z : ∀ k, k ≤ 3000 → k ≤ sizeLine := fun k h => sz_le (by omega)
  have g1 : ∀ x : MO, (M ++ [x])[M.length]? = some x := fun x => by simp
  have s1 : ∀ x y : MO, (M ++ [x]).set M.length y = M ++ [y] := fun x y => by simp
  simp only [td_law_worths, mkDic, ↓reduceIte, ↓sSeq_u, ↓sNext_u, ↓sBreak_u, ↓sCont_u, ↓sDrop_u, ↓sRet_u, ↓sRetN_u, ↓sIf_u, ↓sAsg_u, ↓sPut_u, ↓sFor_u, ↓dC_u, ↓dNil_u, ↓dCons_u, ↓dBlt_u, ↓dOp2_u, ↓dUn_u, ↓dMeth_u, ↓dCall_u, ↓dCallK_u, ↓dNotT_u, ↓dAndT_u, ↓dOrT_u, ↓dIf_u, ↓dTup_u, ↓dLst_u, ↓dLstO_u, ↓dSl_u, ↓dNoPart_u, ↓dRev_u, ↓dYes_u, ↓dDic0_u, ↓dLc_u, ↓dEnum_u, ↓dZip_u, ↓gtName_u, ↓dSortSet_u, ↓dSetK_u, ↓dDisp_u, ↓dVar_m, ↓dTru_m, ↓dAnd_m, ↓dOr_m, ↓dNot_m, ↓dChain_m, ↓dIter_m, ↓dRange1_m, ↓dPart_m, ↓gtCons_m, ↓gtNil_m, ↓gtTup_m, ↓sPar_m, ↓oAdd_m, ↓oInt_m, ↓oNeg_m, ↓oOrd_m, ↓oIx_m, ↓oLen_m, ↓oToInt_m, ↓oToTup_m, ↓oToList_m, ↓oGet1_m, ↓oUpper_m, ↓oToStr_m, ↓oPop_m, ↓oAppend_m, ↓oPut_m, ↓oSIndex_m, ↓atI_m, ↓getK_m, ↓oSl, ↓oRev, ↓oIsi_T, ↓oMax2I, ↓oMulI, ↓eqI, ↓eqS, ↓eqL, ↓eqT, ↓neI, ↓neS, ↓neL, ↓neT, vw_non, vw_bl, vw_int, vw_str, vw_tup, vw_lst, vw_dic, vw_raw, vw_obj, truD, keyD, itemsOf, mthTy, lenD, seqD, List.map_cons, List.map_nil, List.cons_append, List.nil_append, List.getElem?_cons_zero, List.getElem?_cons_succ, List.getElem?_nil, List.set_cons_zero, List.set_cons_succ, List.length_cons, List.length_nil, ↓reduceIte, Bool.not_true, Bool.not_false, Bool.false_eq_true, true_and, and_true, List.replicate_zero, List.replicate_succ, List.append_nil, ↓sp1_m, ↓spRow_m, ↓spRis_m, ↓spPl_m, ↓spPg_m, ↓spDraw_m, ↓spDrw_m, ↓yes_m, ↓spBetween_m, ↓spNeed_m, ↓in2, ↓oMulT_m, ↓oDPop_m]
  refine forGo_inv (fun i env M' => ∃ (T : List Str) (a b : Option D), env = [some (.lst (rs.map Rw.D)), some (.obj M.length), a, b] ∧ M' = M ++ [.dic (ksK T) (valsC T fun y => oD (lastW (rs.take i) y))] ∧ T.Nodup ∧ (∀ k ∈ T, k ∈ words8) ∧ (∀ k, (lastW (rs.take i) k).isSome = true → k ∈ T) ∧ T.length ≤ i) ?_ ?_
    ⟨[], none, none, rfl, rfl, List.nodup_nil, (fun k h => by simp at h), (fun k h => by cases h), by simp⟩
  · rintro i x env M' hx ⟨T, a, b, rfl, rfl, nT, wT, mT, lT⟩ N hN
    rw [List.getElem?_map] at hx
    cases hr : rs[i]? with
    | none => rw [hr] at hx; cases hx
    | some r =>
      rw [hr] at hx
      simp only [Option.map_some, Option.some.injEq] at hx
      subst hx
      have hi := (List.getElem?_eq_some_iff.mp hr).1
      have et : rs.take (i + 1) = rs.take i ++ [r] := by rw [List.take_succ, hr]; rfl
      refine ⟨trivial, ?_⟩
      cases ht : r.touch with
      | none =>
        obtain ⟨xs, hd, e, hn, a0⟩ := noTouchD ht
        have el : lastW (rs.take (i + 1)) = lastW (rs.take i) := by
          unfold lastW; rw [et, lastF_app, ht]
        rw [e]
        simp only [↓sSeq_u, ↓sNext_u, ↓sBreak_u, ↓sCont_u, ↓sDrop_u, ↓sRet_u, ↓sRetN_u, ↓sIf_u, ↓sAsg_u, ↓sPut_u, ↓sFor_u, ↓dC_u, ↓dNil_u, ↓dCons_u, ↓dBlt_u, ↓dOp2_u, ↓dUn_u, ↓dMeth_u, ↓dCall_u, ↓dCallK_u, ↓dNotT_u, ↓dAndT_u, ↓dOrT_u, ↓dIf_u, ↓dTup_u, ↓dLst_u, ↓dLstO_u, ↓dSl_u, ↓dNoPart_u, ↓dRev_u, ↓dYes_u, ↓dDic0_u, ↓dLc_u, ↓dEnum_u, ↓dZip_u, ↓gtName_u, ↓dSortSet_u, ↓dSetK_u, ↓dDisp_u, ↓dVar_m, ↓dTru_m, ↓dAnd_m, ↓dOr_m, ↓dNot_m, ↓dChain_m, ↓dIter_m, ↓dRange1_m, ↓dPart_m, ↓gtCons_m, ↓gtNil_m, ↓gtTup_m, ↓sPar_m, ↓oAdd_m, ↓oInt_m, ↓oNeg_m, ↓oOrd_m, ↓oIx_m, ↓oLen_m, ↓oToInt_m, ↓oToTup_m, ↓oToList_m, ↓oGet1_m, ↓oUpper_m, ↓oToStr_m, ↓oPop_m, ↓oAppend_m, ↓oPut_m, ↓oSIndex_m, ↓atI_m, ↓getK_m, ↓oSl, ↓oRev, ↓oIsi_T, ↓oMax2I, ↓oMulI, ↓eqI, ↓eqS, ↓eqL, ↓eqT, ↓neI, ↓neS, ↓neL, ↓neT, vw_non, vw_bl, vw_int, vw_str, vw_tup, vw_lst, vw_dic, vw_raw, vw_obj, truD, keyD, itemsOf, mthTy, lenD, seqD, List.map_cons, List.map_nil, List.cons_append, List.nil_append, List.getElem?_cons_zero, List.getElem?_cons_succ, List.getElem?_nil, List.set_cons_zero, List.set_cons_succ, List.length_cons, List.length_nil, ↓reduceIte, Bool.not_true, Bool.not_false, Bool.false_eq_true, true_and, and_true, List.replicate_zero, List.replicate_succ, List.append_nil, ↓sp1_m, ↓spRow_m, ↓spRis_m, ↓spPl_m, ↓spPg_m, ↓spDraw_m, ↓spDrw_m, ↓yes_m, ↓spBetween_m, ↓spNeed_m, ↓in2, ↓oMulT_m, ↓oDPop_m, a0, hn]
        exact ⟨z _ (by decide), hN _ _ ⟨T, _, _, rfl, by rw [el], nT, wT, by rw [el]; exact mT, by omega⟩⟩
      | some kw =>
        obtain ⟨k, w⟩ := kw
        obtain ⟨hk, hw, xs, hd, e, hh, a0, a2, am⟩ := touchD ht (ho r (List.mem_of_getElem? hr))
        have hin := headIn hh
        have el : lastW (rs.take (i + 1)) = upd1 (lastW (rs.take i)) k w := by
          unfold lastW; rw [et, lastF_app, ht]
        obtain ⟨T', eT1, eT2, nT', mT', lT'⟩ := putC (x := k) (c := fun y => oD (lastW (rs.take i) y)) (d := oD w) nT
        rw [setC_oD] at eT2
        rw [e]
        simp only [↓sSeq_u, ↓sNext_u, ↓sBreak_u, ↓sCont_u, ↓sDrop_u, ↓sRet_u, ↓sRetN_u, ↓sIf_u, ↓sAsg_u, ↓sPut_u, ↓sFor_u, ↓dC_u, ↓dNil_u, ↓dCons_u, ↓dBlt_u, ↓dOp2_u, ↓dUn_u, ↓dMeth_u, ↓dCall_u, ↓dCallK_u, ↓dNotT_u, ↓dAndT_u, ↓dOrT_u, ↓dIf_u, ↓dTup_u, ↓dLst_u, ↓dLstO_u, ↓dSl_u, ↓dNoPart_u, ↓dRev_u, ↓dYes_u, ↓dDic0_u, ↓dLc_u, ↓dEnum_u, ↓dZip_u, ↓gtName_u, ↓dSortSet_u, ↓dSetK_u, ↓dDisp_u, ↓dVar_m, ↓dTru_m, ↓dAnd_m, ↓dOr_m, ↓dNot_m, ↓dChain_m, ↓dIter_m, ↓dRange1_m, ↓dPart_m, ↓gtCons_m, ↓gtNil_m, ↓gtTup_m, ↓sPar_m, ↓oAdd_m, ↓oInt_m, ↓oNeg_m, ↓oOrd_m, ↓oIx_m, ↓oLen_m, ↓oToInt_m, ↓oToTup_m, ↓oToList_m, ↓oGet1_m, ↓oUpper_m, ↓oToStr_m, ↓oPop_m, ↓oAppend_m, ↓oPut_m, ↓oSIndex_m, ↓atI_m, ↓getK_m, ↓oSl, ↓oRev, ↓oIsi_T, ↓oMax2I, ↓oMulI, ↓eqI, ↓eqS, ↓eqL, ↓eqT, ↓neI, ↓neS, ↓neL, ↓neT, vw_non, vw_bl, vw_int, vw_str, vw_tup, vw_lst, vw_dic, vw_raw, vw_obj, truD, keyD, itemsOf, mthTy, lenD, seqD, List.map_cons, List.map_nil, List.cons_append, List.nil_append, List.getElem?_cons_zero, List.getElem?_cons_succ, List.getElem?_nil, List.set_cons_zero, List.set_cons_succ, List.length_cons, List.length_nil, ↓reduceIte, Bool.not_true, Bool.not_false, Bool.false_eq_true, true_and, and_true, List.replicate_zero, List.replicate_succ, List.append_nil, ↓sp1_m, ↓spRow_m, ↓spRis_m, ↓spPl_m, ↓spPg_m, ↓spDraw_m, ↓spDrw_m, ↓yes_m, ↓spBetween_m, ↓spNeed_m, ↓in2, ↓oMulT_m, ↓oDPop_m, a0, a2, am, hin, g1, s1, eT1, eT2]
        refine ⟨z _ (by decide), by simp only [ksK, List.length_map]; exact sz_lt (by omega), hN _ _ ⟨T', _, _, rfl, by rw [el], nT', fun y hy => ?_, fun y hy => ?_, by omega⟩⟩
        · rcases (mT' y).mp hy with h | rfl
          · exact wT y h
          · exact hk
        · rw [el] at hy
          unfold upd1 at hy
          by_cases h : y = k
          · exact (mT' y).mpr (.inr h)
          · rw [if_neg h] at hy; exact (mT' y).mpr (.inl (mT y hy))
  · rintro env M' ⟨T, a, b, rfl, rfl, nT, wT, mT, lT⟩
    have e : (rs.map Rw.D).length = rs.length := by simp
    rw [e, List.take_length] at mT
    rw [e, List.take_length]
    rw [e] at lT
    refine ⟨trivial, ?_⟩
    have hv : vw (M ++ [.dic (ksK T) (valsC T fun y => oD (lastW rs y))]) (.obj M.length) = .dic (ksK T) (valsC T fun y => oD (lastW rs y)) := by rw [vw_obj, g1]
    simp only [↓sSeq_u, ↓sNext_u, ↓sBreak_u, ↓sCont_u, ↓sDrop_u, ↓sRet_u, ↓sRetN_u, ↓sIf_u, ↓sAsg_u, ↓sPut_u, ↓sFor_u, ↓dC_u, ↓dNil_u, ↓dCons_u, ↓dBlt_u, ↓dOp2_u, ↓dUn_u, ↓dMeth_u, ↓dCall_u, ↓dCallK_u, ↓dNotT_u, ↓dAndT_u, ↓dOrT_u, ↓dIf_u, ↓dTup_u, ↓dLst_u, ↓dLstO_u, ↓dSl_u, ↓dNoPart_u, ↓dRev_u, ↓dYes_u, ↓dDic0_u, ↓dLc_u, ↓dEnum_u, ↓dZip_u, ↓gtName_u, ↓dSortSet_u, ↓dSetK_u, ↓dDisp_u, ↓dVar_m, ↓dTru_m, ↓dAnd_m, ↓dOr_m, ↓dNot_m, ↓dChain_m, ↓dIter_m, ↓dRange1_m, ↓dPart_m, ↓gtCons_m, ↓gtNil_m, ↓gtTup_m, ↓sPar_m, ↓oAdd_m, ↓oInt_m, ↓oNeg_m, ↓oOrd_m, ↓oIx_m, ↓oLen_m, ↓oToInt_m, ↓oToTup_m, ↓oToList_m, ↓oGet1_m, ↓oUpper_m, ↓oToStr_m, ↓oPop_m, ↓oAppend_m, ↓oPut_m, ↓oSIndex_m, ↓atI_m, ↓getK_m, ↓oSl, ↓oRev, ↓oIsi_T, ↓oMax2I, ↓oMulI, ↓eqI, ↓eqS, ↓eqL, ↓eqT, ↓neI, ↓neS, ↓neL, ↓neT, vw_non, vw_bl, vw_int, vw_str, vw_tup, vw_lst, vw_dic, vw_raw, vw_obj, truD, keyD, itemsOf, mthTy, lenD, seqD, List.map_cons, List.map_nil, List.cons_append, List.nil_append, List.getElem?_cons_zero, List.getElem?_cons_succ, List.getElem?_nil, List.set_cons_zero, List.set_cons_succ, List.length_cons, List.length_nil, ↓reduceIte, Bool.not_true, Bool.not_false, Bool.false_eq_true, true_and, and_true, List.replicate_zero, List.replicate_succ, List.append_nil, ↓sp1_m, ↓spRow_m, ↓spRis_m, ↓spPl_m, ↓spPg_m, ↓spDraw_m, ↓spDrw_m, ↓yes_m, ↓spBetween_m, ↓spNeed_m, ↓in2, ↓oMulT_m, ↓oDPop_m]
    refine sorted_dict hv (fun x hx => by have := word_len (wl8 (wT x hx)); omega) ?_
    simp only [↓sSeq_u, ↓sNext_u, ↓sBreak_u, ↓sCont_u, ↓sDrop_u, ↓sRet_u, ↓sRetN_u, ↓sIf_u, ↓sAsg_u, ↓sPut_u, ↓sFor_u, ↓dC_u, ↓dNil_u, ↓dCons_u, ↓dBlt_u, ↓dOp2_u, ↓dUn_u, ↓dMeth_u, ↓dCall_u, ↓dCallK_u, ↓dNotT_u, ↓dAndT_u, ↓dOrT_u, ↓dIf_u, ↓dTup_u, ↓dLst_u, ↓dLstO_u, ↓dSl_u, ↓dNoPart_u, ↓dRev_u, ↓dYes_u, ↓dDic0_u, ↓dLc_u, ↓dEnum_u, ↓dZip_u, ↓gtName_u, ↓dSortSet_u, ↓dSetK_u, ↓dDisp_u, ↓dVar_m, ↓dTru_m, ↓dAnd_m, ↓dOr_m, ↓dNot_m, ↓dChain_m, ↓dIter_m, ↓dRange1_m, ↓dPart_m, ↓gtCons_m, ↓gtNil_m, ↓gtTup_m, ↓sPar_m, ↓oAdd_m, ↓oInt_m, ↓oNeg_m, ↓oOrd_m, ↓oIx_m, ↓oLen_m, ↓oToInt_m, ↓oToTup_m, ↓oToList_m, ↓oGet1_m, ↓oUpper_m, ↓oToStr_m, ↓oPop_m, ↓oAppend_m, ↓oPut_m, ↓oSIndex_m, ↓atI_m, ↓getK_m, ↓oSl, ↓oRev, ↓oIsi_T, ↓oMax2I, ↓oMulI, ↓eqI, ↓eqS, ↓eqL, ↓eqT, ↓neI, ↓neS, ↓neL, ↓neT, vw_non, vw_bl, vw_int, vw_str, vw_tup, vw_lst, vw_dic, vw_raw, vw_obj, truD, keyD, itemsOf, mthTy, lenD, seqD, List.map_cons, List.map_nil, List.cons_append, List.nil_append, List.getElem?_cons_zero, List.getElem?_cons_succ, List.getElem?_nil, List.set_cons_zero, List.set_cons_succ, List.length_cons, List.length_nil, ↓reduceIte, Bool.not_true, Bool.not_false, Bool.false_eq_true, true_and, and_true, List.replicate_zero, List.replicate_succ, List.append_nil, ↓sp1_m, ↓spRow_m, ↓spRis_m, ↓spPl_m, ↓spPg_m, ↓spDraw_m, ↓spDrw_m, ↓yes_m, ↓spBetween_m, ↓spNeed_m, ↓in2, ↓oMulT_m, ↓oDPop_m]
    refine lcGo_pure (fun d => match d with | .str x => (lastW rs x).isSome | _ => false) (fun d => match d with | .str x => prI (lastW rs) x | _ => .non) trivial (z _ (by simp only [List.length_map, sortS_len, List.length_nil]; omega)) (fun y hy Kn Ks k1 k2 => ?_) ?_
    · obtain ⟨x, hx, rfl⟩ := List.mem_map.mp hy
      have g := getC_in (c := fun y => oD (lastW rs y)) (sortS_mem.mp hx)
      simp only [↓sSeq_u, ↓sNext_u, ↓sBreak_u, ↓sCont_u, ↓sDrop_u, ↓sRet_u, ↓sRetN_u, ↓sIf_u, ↓sAsg_u, ↓sPut_u, ↓sFor_u, ↓dC_u, ↓dNil_u, ↓dCons_u, ↓dBlt_u, ↓dOp2_u, ↓dUn_u, ↓dMeth_u, ↓dCall_u, ↓dCallK_u, ↓dNotT_u, ↓dAndT_u, ↓dOrT_u, ↓dIf_u, ↓dTup_u, ↓dLst_u, ↓dLstO_u, ↓dSl_u, ↓dNoPart_u, ↓dRev_u, ↓dYes_u, ↓dDic0_u, ↓dLc_u, ↓dEnum_u, ↓dZip_u, ↓gtName_u, ↓dSortSet_u, ↓dSetK_u, ↓dDisp_u, ↓dVar_m, ↓dTru_m, ↓dAnd_m, ↓dOr_m, ↓dNot_m, ↓dChain_m, ↓dIter_m, ↓dRange1_m, ↓dPart_m, ↓gtCons_m, ↓gtNil_m, ↓gtTup_m, ↓sPar_m, ↓oAdd_m, ↓oInt_m, ↓oNeg_m, ↓oOrd_m, ↓oIx_m, ↓oLen_m, ↓oToInt_m, ↓oToTup_m, ↓oToList_m, ↓oGet1_m, ↓oUpper_m, ↓oToStr_m, ↓oPop_m, ↓oAppend_m, ↓oPut_m, ↓oSIndex_m, ↓atI_m, ↓getK_m, ↓oSl, ↓oRev, ↓oIsi_T, ↓oMax2I, ↓oMulI, ↓eqI, ↓eqS, ↓eqL, ↓eqT, ↓neI, ↓neS, ↓neL, ↓neT, vw_non, vw_bl, vw_int, vw_str, vw_tup, vw_lst, vw_dic, vw_raw, vw_obj, truD, keyD, itemsOf, mthTy, lenD, seqD, List.map_cons, List.map_nil, List.cons_append, List.nil_append, List.getElem?_cons_zero, List.getElem?_cons_succ, List.getElem?_nil, List.set_cons_zero, List.set_cons_succ, List.length_cons, List.length_nil, ↓reduceIte, Bool.not_true, Bool.not_false, Bool.false_eq_true, true_and, and_true, List.replicate_zero, List.replicate_succ, List.append_nil, ↓sp1_m, ↓spRow_m, ↓spRis_m, ↓spPl_m, ↓spPg_m, ↓spDraw_m, ↓spDrw_m, ↓yes_m, ↓spBetween_m, ↓spNeed_m, ↓in2, ↓oMulT_m, ↓oDPop_m, wipe3, g1, g]
      rw [oIsN_m (oD_raw _)]
      cases ew : lastW rs x with
      | none =>
        rw [show (true != isNonD (oD (none : Option Int))) = false from rfl]
        simp only [↓sSeq_u, ↓sNext_u, ↓sBreak_u, ↓sCont_u, ↓sDrop_u, ↓sRet_u, ↓sRetN_u, ↓sIf_u, ↓sAsg_u, ↓sPut_u, ↓sFor_u, ↓dC_u, ↓dNil_u, ↓dCons_u, ↓dBlt_u, ↓dOp2_u, ↓dUn_u, ↓dMeth_u, ↓dCall_u, ↓dCallK_u, ↓dNotT_u, ↓dAndT_u, ↓dOrT_u, ↓dIf_u, ↓dTup_u, ↓dLst_u, ↓dLstO_u, ↓dSl_u, ↓dNoPart_u, ↓dRev_u, ↓dYes_u, ↓dDic0_u, ↓dLc_u, ↓dEnum_u, ↓dZip_u, ↓gtName_u, ↓dSortSet_u, ↓dSetK_u, ↓dDisp_u, ↓dVar_m, ↓dTru_m, ↓dAnd_m, ↓dOr_m, ↓dNot_m, ↓dChain_m, ↓dIter_m, ↓dRange1_m, ↓dPart_m, ↓gtCons_m, ↓gtNil_m, ↓gtTup_m, ↓sPar_m, ↓oAdd_m, ↓oInt_m, ↓oNeg_m, ↓oOrd_m, ↓oIx_m, ↓oLen_m, ↓oToInt_m, ↓oToTup_m, ↓oToList_m, ↓oGet1_m, ↓oUpper_m, ↓oToStr_m, ↓oPop_m, ↓oAppend_m, ↓oPut_m, ↓oSIndex_m, ↓atI_m, ↓getK_m, ↓oSl, ↓oRev, ↓oIsi_T, ↓oMax2I, ↓oMulI, ↓eqI, ↓eqS, ↓eqL, ↓eqT, ↓neI, ↓neS, ↓neL, ↓neT, vw_non, vw_bl, vw_int, vw_str, vw_tup, vw_lst, vw_dic, vw_raw, vw_obj, truD, keyD, itemsOf, mthTy, lenD, seqD, List.map_cons, List.map_nil, List.cons_append, List.nil_append, List.getElem?_cons_zero, List.getElem?_cons_succ, List.getElem?_nil, List.set_cons_zero, List.set_cons_succ, List.length_cons, List.length_nil, ↓reduceIte, Bool.not_true, Bool.not_false, Bool.false_eq_true, true_and, and_true, List.replicate_zero, List.replicate_succ, List.append_nil, ↓sp1_m, ↓spRow_m, ↓spRis_m, ↓spPl_m, ↓spPg_m, ↓spDraw_m, ↓spDrw_m, ↓yes_m, ↓spBetween_m, ↓spNeed_m, ↓in2, ↓oMulT_m, ↓oDPop_m]
        exact k2 (by simp [ew])
      | some v =>
        rw [show (true != isNonD (oD (some v))) = true from rfl]
        simp only [↓sSeq_u, ↓sNext_u, ↓sBreak_u, ↓sCont_u, ↓sDrop_u, ↓sRet_u, ↓sRetN_u, ↓sIf_u, ↓sAsg_u, ↓sPut_u, ↓sFor_u, ↓dC_u, ↓dNil_u, ↓dCons_u, ↓dBlt_u, ↓dOp2_u, ↓dUn_u, ↓dMeth_u, ↓dCall_u, ↓dCallK_u, ↓dNotT_u, ↓dAndT_u, ↓dOrT_u, ↓dIf_u, ↓dTup_u, ↓dLst_u, ↓dLstO_u, ↓dSl_u, ↓dNoPart_u, ↓dRev_u, ↓dYes_u, ↓dDic0_u, ↓dLc_u, ↓dEnum_u, ↓dZip_u, ↓gtName_u, ↓dSortSet_u, ↓dSetK_u, ↓dDisp_u, ↓dVar_m, ↓dTru_m, ↓dAnd_m, ↓dOr_m, ↓dNot_m, ↓dChain_m, ↓dIter_m, ↓dRange1_m, ↓dPart_m, ↓gtCons_m, ↓gtNil_m, ↓gtTup_m, ↓sPar_m, ↓oAdd_m, ↓oInt_m, ↓oNeg_m, ↓oOrd_m, ↓oIx_m, ↓oLen_m, ↓oToInt_m, ↓oToTup_m, ↓oToList_m, ↓oGet1_m, ↓oUpper_m, ↓oToStr_m, ↓oPop_m, ↓oAppend_m, ↓oPut_m, ↓oSIndex_m, ↓atI_m, ↓getK_m, ↓oSl, ↓oRev, ↓oIsi_T, ↓oMax2I, ↓oMulI, ↓eqI, ↓eqS, ↓eqL, ↓eqT, ↓neI, ↓neS, ↓neL, ↓neT, vw_non, vw_bl, vw_int, vw_str, vw_tup, vw_lst, vw_dic, vw_raw, vw_obj, truD, keyD, itemsOf, mthTy, lenD, seqD, List.map_cons, List.map_nil, List.cons_append, List.nil_append, List.getElem?_cons_zero, List.getElem?_cons_succ, List.getElem?_nil, List.set_cons_zero, List.set_cons_succ, List.length_cons, List.length_nil, ↓reduceIte, Bool.not_true, Bool.not_false, Bool.false_eq_true, true_and, and_true, List.replicate_zero, List.replicate_succ, List.append_nil, ↓sp1_m, ↓spRow_m, ↓spRis_m, ↓spPl_m, ↓spPg_m, ↓spDraw_m, ↓spDrw_m, ↓yes_m, ↓spBetween_m, ↓spNeed_m, ↓in2, ↓oMulT_m, ↓oDPop_m, g1, g]
        have := k1 (by simp [ew])
        refine ⟨z _ (by decide), ?_⟩
        have e2 : prI (lastW rs) x = .tup [.str x, oD (lastW rs x)] := by
          rw [oD_nI (by rw [ew]; rfl)]; rfl
        rw [← e2]; exact this
    · rw [List.filter_map, List.map_map]
      simp only [↓reduceIte, ↓sSeq_u, ↓sNext_u, ↓sBreak_u, ↓sCont_u, ↓sDrop_u, ↓sRet_u, ↓sRetN_u, ↓sIf_u, ↓sAsg_u, ↓sPut_u, ↓sFor_u, ↓dC_u, ↓dNil_u, ↓dCons_u, ↓dBlt_u, ↓dOp2_u, ↓dUn_u, ↓dMeth_u, ↓dCall_u, ↓dCallK_u, ↓dNotT_u, ↓dAndT_u, ↓dOrT_u, ↓dIf_u, ↓dTup_u, ↓dLst_u, ↓dLstO_u, ↓dSl_u, ↓dNoPart_u, ↓dRev_u, ↓dYes_u, ↓dDic0_u, ↓dLc_u, ↓dEnum_u, ↓dZip_u, ↓gtName_u, ↓dSortSet_u, ↓dSetK_u, ↓dDisp_u, ↓dVar_m, ↓dTru_m, ↓dAnd_m, ↓dOr_m, ↓dNot_m, ↓dChain_m, ↓dIter_m, ↓dRange1_m, ↓dPart_m, ↓gtCons_m, ↓gtNil_m, ↓gtTup_m, ↓sPar_m, ↓oAdd_m, ↓oInt_m, ↓oNeg_m, ↓oOrd_m, ↓oIx_m, ↓oLen_m, ↓oToInt_m, ↓oToTup_m, ↓oToList_m, ↓oGet1_m, ↓oUpper_m, ↓oToStr_m, ↓oPop_m, ↓oAppend_m, ↓oPut_m, ↓oSIndex_m, ↓atI_m, ↓getK_m, ↓oSl, ↓oRev, ↓oIsi_T, ↓oMax2I, ↓oMulI, ↓eqI, ↓eqS, ↓eqL, ↓eqT, ↓neI, ↓neS, ↓neL, ↓neT, vw_non, vw_bl, vw_int, vw_str, vw_tup, vw_lst, vw_dic, vw_raw, vw_obj, truD, keyD, itemsOf, mthTy, lenD, seqD, List.map_cons, List.map_nil, List.cons_append, List.nil_append, List.getElem?_cons_zero, List.getElem?_cons_succ, List.getElem?_nil, List.set_cons_zero, List.set_cons_succ, List.length_cons, List.length_nil, ↓reduceIte, Bool.not_true, Bool.not_false, Bool.false_eq_true, true_and, and_true, List.replicate_zero, List.replicate_succ, List.append_nil, ↓sp1_m, ↓spRow_m, ↓spRis_m, ↓spPl_m, ↓spPg_m, ↓spDraw_m, ↓spDrw_m, ↓yes_m, ↓spBetween_m, ↓spNeed_m, ↓in2, ↓oMulT_m, ↓oDPop_m]
      refine q _ _ ⟨T.filter fun x => (lastW rs x).isSome, nT.filter _, fun k => ?_, fun k hk => wT k (List.mem_filter.mp hk).1, lastF_v rs _ (fun k v e => by cases e) ho, ?_⟩
      · rw [List.mem_filter]; exact ⟨fun h => h.2, fun h => ⟨mT k h, h⟩⟩
      · show D.tup ((List.filter _ (sortS T)).map _) = D.tup _
        have : List.filter (fun x => (lastW rs x).isSome) (sortS T) = sortS (T.filter fun x => (lastW rs x).isSome) := by
          refine List.Perm.eq_of_pairwise (le := fun a b => leS a b = true) (fun x y _ _ h1 h2 => leS_asymm x y h1 h2) ((sortS_pw T).filter _) (sortS_pw _) ?_
          exact ((sortS_perm T).filter _).trans (sortS_perm _).symm
        rw [← this]; rfl
end L3.K55
namespace L3
open PySem PySem.Spec PyProof.Rows L2
/-! ### what repr() can show -/
structure Sm (w dp : Nat) (d : D) : Prop where
  pu : d.pu = true
  sh : d.toP.showable = true
  lv : d.toP.leavesShort 13 = true
  wt : d.toP.weight ≤ w
  de : dDep d ≤ dp
theorem Sm.mono {w w' dp dp' : Nat} {d : D} (h : Sm w dp d) (a : w ≤ w') (b : dp ≤ dp') : Sm w' dp' d := ⟨h.pu, h.sh, h.lv, Nat.le_trans h.wt a, Nat.le_trans h.de b⟩
theorem Sm.rep {w dp : Nat} {d : D} (h : Sm w dp d) (hw : w ≤ 2 ^ 20) (hd : dp ≤ 64) : repOk d :=
  ⟨h.pu, h.sh, PyData.shown_fits (B := 13) (by decide) (by decide) h.lv (Nat.le_trans h.wt hw), Nat.le_trans h.de hd⟩
theorem Sm.non : Sm 0 1 .non := ⟨rfl, rfl, rfl, Nat.le_refl _, by simp [dDep, D.toP, PyData.depth]⟩
theorem Sm.bl (b : Bool) : Sm 0 1 (.bl b) := ⟨rfl, by simp [D.toP, PyData.showable], by simp [D.toP, PyData.leavesShort], by simp [D.toP, PyData.weight], by simp [dDep, D.toP, PyData.depth]⟩
theorem Sm.int {i : Int} (h : i.natAbs < 2 ^ 30) : Sm 40 1 (.int i) := by
  have hl : i.natAbs.log2 < 30 := by
    rcases log_lt h with h | h
    · exact h
    · subst h; decide
  refine ⟨rfl, ?_, ?_, ?_, by simp [dDep, D.toP, PyData.depth]⟩
  · simp only [D.toP, PyData.showable, decide_eq_true_eq]; omega
  · simp only [D.toP, PyData.leavesShort, decide_eq_true_eq]
    exact PyData.shown_int_le2 (by omega) (by omega)
  · simp only [D.toP, PyData.weight]
    split <;> omega
theorem Sm.str {x : Str} {n : Nat} (hl : x.length ≤ n) (h : x.cps.toList.all (fun c => decide (c < 16 ^ 8)) = true) : Sm n 1 (.str x) :=
  ⟨rfl, by simp [D.toP, PyData.showable], by simpa only [D.toP, PyData.leavesShort] using h, hl, by simp [dDep, D.toP, PyData.depth]⟩
theorem Sm.all {w dp : Nat} : ∀ {ds : List D}, (∀ d ∈ ds, Sm w dp d) → D.pus ds = true ∧ PyData.showableAll (D.toPs ds) = true ∧ PyData.leavesShortAll 13 (D.toPs ds) = true ∧ PyData.weightAll (D.toPs ds) ≤ (w + 1) * ds.length ∧ PyData.depthAll (D.toPs ds) ≤ dp
  | [], _ => ⟨rfl, rfl, rfl, Nat.zero_le _, by simp [D.toPs, PyData.depthAll]⟩
  | d :: r, h => by
    obtain ⟨h1, h2, h3, h4, h5⟩ := Sm.all (ds := r) fun e he => h e (by simp [he])
    have hd := h d (by simp)
    have h6 := hd.wt
    have h7 := hd.de
    unfold dDep at h7
    refine ⟨by simp only [D.pus, hd.pu, h1, Bool.and_self], by simp only [D.toPs, PyData.showableAll, hd.sh, h2, Bool.and_self], by simp only [D.toPs, PyData.leavesShortAll, hd.lv, h3, Bool.and_self], ?_, ?_⟩
    · simp only [D.toPs, PyData.weightAll, List.length_cons, Nat.mul_add, Nat.mul_one]
      omega
    · simp only [D.toPs, PyData.depthAll]; omega
theorem Sm.tup {w dp n : Nat} {ds : List D} (h : ∀ d ∈ ds, Sm w dp d) (hl : ds.length ≤ n) : Sm ((w + 1) * n) (dp + 1) (.tup ds) := by
  obtain ⟨h1, h2, h3, h4, h5⟩ := Sm.all h
  refine ⟨by simpa only [D.pu] using h1, by simpa only [D.toP, PyData.showable] using h2, by simpa only [D.toP, PyData.leavesShort] using h3, ?_, ?_⟩
  · simp only [D.toP, PyData.weight]; exact Nat.le_trans h4 (Nat.mul_le_mul_left _ hl)
  · simp only [dDep, D.toP, PyData.depth]; omega
theorem Sm.lst {w dp n : Nat} {ds : List D} (h : ∀ d ∈ ds, Sm w dp d) (hl : ds.length ≤ n) : Sm ((w + 1) * n) (dp + 1) (.lst ds) := by
  obtain ⟨h1, h2, h3, h4, h5⟩ := Sm.all h
  refine ⟨by simpa only [D.pu] using h1, by simpa only [D.toP, PyData.showable] using h2, by simpa only [D.toP, PyData.leavesShort] using h3, ?_, ?_⟩
  · simp only [D.toP, PyData.weight]; exact Nat.le_trans h4 (Nat.mul_le_mul_left _ hl)
  · simp only [dDep, D.toP, PyData.depth]; omega
theorem Sm.two {w dp : Nat} {a b : D} (h : Sm w dp a) (k : Sm w dp b) : Sm ((w + 1) * 2) (dp + 1) (.tup [a, b]) := Sm.tup (fun d hd => by
  simp only [List.mem_cons, List.not_mem_nil, or_false] at hd
  rcases hd with rfl | rfl
  · exact h
  · exact k) (Nat.le_refl _)
theorem Sm.twoL {w dp : Nat} {a b : D} (h : Sm w dp a) (k : Sm w dp b) : Sm ((w + 1) * 2) (dp + 1) (.lst [a, b]) := Sm.lst (fun d hd => by
  simp only [List.mem_cons, List.not_mem_nil, or_false] at hd
  rcases hd with rfl | rfl
  · exact h
  · exact k) (Nat.le_refl _)
theorem mul2 (d : D) : (List.replicate (2 : Int).toNat [d]).flatten = [d, d] := rfl
theorem pick1 {α : Type} (z a : α) : pickL z [0] [a] = [a] := rfl
theorem pick10 {α : Type} (z a b : α) : pickL z [1, 0] [a, b] = [b, a] := rfl
end L3
namespace L3.K55
open PySem PySem.Spec PyProof.Rows L2
theorem cut_take {xs : List D} {f : Nat} (h : f ≤ xs.length) : cutD xs none (some (f : Nat)) = xs.take f := by
  have e1 : HT.sIx xs.length xs.length (some ((f : Nat) : Int)) = min f xs.length := HT.sIx_nat _ _ _
  have e3 : HT.sIx xs.length 0 none = 0 := rfl
  unfold cutD
  rw [e1, e3, List.drop_zero, Nat.sub_zero, Nat.min_eq_left h]
theorem Frame.set {M : St3} {t : Nat} {x : MO} : Frame t M (M.set t x) := ⟨by simp, fun i hi hne => List.getElem?_set_ne (fun h => hne h.symm)⟩
theorem Deck.same {n n2 : Nat} {R M M' : St3} (h : Deck n R M) (k : Deck n2 R M') (i : Nat) (hi : 2 ≤ i) : M'[i]? = M[i]? := by
  obtain ⟨cs, mx, dr, rfl, _⟩ := h
  obtain ⟨cs', mx', dr', rfl, _⟩ := k
  match i, hi with
  | i + 2, _ => simp
theorem dl_law_by_name {M : St3} {ds : List D} {Q : KD} (h : spDrw 1 (· = []) (fun d => ∃ b, d = .bl b) M ds Q) : td_law_by_name spDraw (E0 Q) (ds.map some ++ List.replicate 0 none) M := by
  obtain ⟨as, n, R, rfl, rfl, hn, hD, q⟩ := h
  have hn' : n + 1 ≤ 1000000 := hn
  simp only [td_law_by_name, ↓sSeq_u, ↓sNext_u, ↓sBreak_u, ↓sCont_u, ↓sDrop_u, ↓sRet_u, ↓sRetN_u, ↓sIf_u, ↓sAsg_u, ↓sPut_u, ↓sFor_u, ↓dC_u, ↓dNil_u, ↓dCons_u, ↓dBlt_u, ↓dOp2_u, ↓dUn_u, ↓dMeth_u, ↓dCall_u, ↓dCallK_u, ↓dNotT_u, ↓dAndT_u, ↓dOrT_u, ↓dIf_u, ↓dTup_u, ↓dLst_u, ↓dLstO_u, ↓dSl_u, ↓dNoPart_u, ↓dRev_u, ↓dYes_u, ↓dDic0_u, ↓dLc_u, ↓dEnum_u, ↓dZip_u, ↓gtName_u, ↓dSortSet_u, ↓dSetK_u, ↓dDisp_u, ↓dVar_m, ↓dTru_m, ↓dAnd_m, ↓dOr_m, ↓dNot_m, ↓dChain_m, ↓dIter_m, ↓dRange1_m, ↓dPart_m, ↓gtCons_m, ↓gtNil_m, ↓gtTup_m, ↓sPar_m, ↓oAdd_m, ↓oInt_m, ↓oNeg_m, ↓oOrd_m, ↓oIx_m, ↓oLen_m, ↓oToInt_m, ↓oToTup_m, ↓oToList_m, ↓oGet1_m, ↓oUpper_m, ↓oToStr_m, ↓oPop_m, ↓oAppend_m, ↓oPut_m, ↓oSIndex_m, ↓atI_m, ↓getK_m, ↓oSl, ↓oRev, ↓oIsi_T, ↓oMax2I, ↓oMulI, ↓eqI, ↓eqS, ↓eqL, ↓eqT, ↓neI, ↓neS, ↓neL, ↓neT, vw_non, vw_bl, vw_int, vw_str, vw_tup, vw_lst, vw_dic, vw_raw, vw_obj, truD, keyD, itemsOf, mthTy, lenD, seqD, List.map_cons, List.map_nil, List.cons_append, List.nil_append, List.getElem?_cons_zero, List.getElem?_cons_succ, List.getElem?_nil, List.set_cons_zero, List.set_cons_succ, List.length_cons, List.length_nil, ↓reduceIte, Bool.not_true, Bool.not_false, Bool.false_eq_true, true_and, and_true, List.replicate_zero, List.replicate_succ, List.append_nil, ↓sp1_m, ↓spRow_m, ↓spRis_m, ↓spPl_m, ↓spPg_m, ↓spDraw_m, ↓spDrw_m, ↓yes_m, ↓spBetween_m, ↓spNeed_m, ↓in2, ↓oMulT_m, ↓oDPop_m]
  exact ⟨n, R, ⟨⟨by decide, by decide⟩, by omega⟩, hD, fun r M' r0 r1 hD' => q _ _ ⟨_, rfl⟩ hD'⟩
end L3.K55
namespace L3.K55
open PySem PySem.Spec PyProof.Rows L2
theorem again_full {m : Int} {a : Nat} (L : List Rw) (n : Nat) (p : Pg) (h : n ≤ L.length) : foldP m a 1 L (foldP m a 1 (L.take n) p) = foldP m a 1 L p := by
  have := foldP_again (m := m) (a := a) L n L.length p
  rw [List.take_length, Nat.max_eq_right h, List.take_length] at this
  exact this
/-! small enough to be shown -/
theorem sm_pr {f : Str → Option Int} (h : ∀ k, wv (f k)) {k : Str} (hk : k ∈ words8) : Sm 82 2 (prI f k) := by
  have h3 : words8.all (fun x => decide (x.length ≤ 40) && x.cps.toList.all fun c => decide (c < 16 ^ 8)) = true := by decide +kernel
  have h4 := List.all_eq_true.mp h3 k hk
  simp only [Bool.and_eq_true, decide_eq_true_eq] at h4
  refine Sm.two (Sm.str h4.1 h4.2) (Sm.int ?_)
  unfold nI
  cases e : f k with
  | none => simp
  | some v => have := h k v e; simp; omega
theorem sm_prs {f : Str → Option Int} (h : ∀ k, wv (f k)) {T : List Str} (n : T.Nodup) (w : ∀ k ∈ T, k ∈ words8) : Sm ((82 + 1) * 8) 3 (.tup ((sortS T).map (prI f))) := Sm.tup (fun d hd => by
  obtain ⟨x, hx, rfl⟩ := List.mem_map.mp hd
  exact sm_pr h (w x (sortS_mem.mp hx))) (by rw [List.length_map, sortS_len]; exact nodup_le n w)
theorem sm_WR {g : Str → Option Int} {d : D} (h : WR g d) : Sm 10648 5 d := by
  obtain ⟨T, h1, h2, h3, h4, rfl⟩ := h
  exact (sm_prs h4 h1 h3).mono (by decide) (by decide)
theorem sm_pg {m : Int} {a : Nat} {p : Pg} {d : D} (h : PgR m a p d) : Sm 1330 4 d := by
  obtain ⟨S, h1, h2, rfl⟩ := h
  have hi : Sm ((82 + 1) * 8) 3 (.int p.1) := (Sm.int (by omega)).mono (by decide) (by decide)
  exact (Sm.two hi (sm_prs h1.v h1.nd fun k hk => (h1.w k hk).1)).mono (by decide) (by decide)
theorem sm_pgs {m : Nat} {σ : Sg} {ds : List D} (h : PgsR m σ ds) (hm : m ≤ 8) : Sm 10648 5 (.tup ds) := Sm.tup (fun d hd => by
  obtain ⟨i, hi⟩ := List.getElem?_of_mem hd
  exact sm_pg (h.2 i d hi)) (by rw [h.1]; exact hm)
theorem rep2 {a b : D} (h : Sm 10648 5 a) (k : Sm 10648 5 b) : repOk (.tup [a, b]) := (Sm.two h k).rep (by decide) (by decide)
theorem rep1' {a : D} (h : Sm 10648 5 a) : repOk a := h.rep (by decide) (by decide)
theorem WR.vw {g : Str → Option Int} {d : D} {M : St3} (h : WR g d) : vw M d = d := by
  obtain ⟨T, _, _, _, _, rfl⟩ := h; rfl
theorem told_ok {n m : Nat} {R M : St3} {rs : List Rw} {P : KD} (hD : Deck n R M) (hm : 1 ≤ m ∧ m ≤ 8) (hl : rs.length ≤ 100) (ho : ∀ r ∈ rs, r.ok) (k : ∀ pw R' M', PgsR m (foldS m 1 rs s0) pw → Deck n R' M' → P (.tup pw) M') :
    spTable M [.int (m : Nat)] fun d M1 => spDoAll M1 [d, .lst (rs.map Rw.D)] fun d M1 => spTold M1 [d] P :=
  ⟨m, rfl, hm, fun M4 hT4 hF4 => ⟨M.length, m, s0, rs, _, rfl, .inl rfl, ⟨hT4, hm, hl, ho⟩, fun M5 hT5 hF5 => ⟨M.length, m, _, rfl, ⟨hT5, hm.1, hm.2⟩, fun pw hP => by
    obtain ⟨R', hD'⟩ := (hF4.trans hF5).deck hD (by rw [hD.len]; omega)
    exact k pw R' M5 hP hD'⟩⟩⟩
theorem done_ok {n m : Nat} {R M : St3} {σ : Sg} {pgs : List D} {rs : List Rw} {P : KD} (hD : Deck n R M) (hP : PgsR m σ pgs) (hm : 1 ≤ m ∧ m ≤ 8) (hl : rs.length ≤ 100) (ho : ∀ r ∈ rs, r.ok) (k : ∀ pw R' M', PgsR m (foldS m 1 rs σ) pw → Deck n R' M' → P (.tup pw) M') : spDoneAll M [.tup pgs, .tup (rs.map Rw.D)] P :=
  ⟨m, σ, pgs, rs, rfl, ⟨hP, hm, hl, ho⟩, fun pw X h => k pw _ _ h (hD.app X)⟩
theorem worths_ok {m : Nat} {M : St3} {pw : List D} {rs : List Rw} {dW : D} {P : KD} (hP : PgsR m (foldS m 1 rs s0) pw) (hm : 1 ≤ m ∧ m ≤ 8) (hW : WR (lastW rs) dW) (k : P dW M) : spWorths M [.tup pw] P :=
  ⟨m, _, pw, rfl, ⟨hP, hm.1, hm.2⟩, fun d hd => by
    rw [wAll_last (by omega)] at hd
    rw [hd.uniq hW]; exact k⟩
theorem lw_ok {n : Nat} {R M : St3} {rs : List Rw} {P : KD} (hD : Deck n R M) (hl : rs.length ≤ 100) (ho : ∀ r ∈ rs, r.ok) (k : ∀ d R' M', WR (lastW rs) d → Deck n R' M' → P d M') : spLW M [.lst (rs.map Rw.D)] P :=
  ⟨rs, rfl, ⟨hl, ho⟩, fun d X h => k d _ _ h (hD.app X)⟩
theorem by_ok {n : Nat} {R M : St3} {rs : List Rw} {P : KD} (hD : Deck n R M) (hl : rs.length ≤ 100) (ho : ∀ r ∈ rs, r.ok) (k : ∀ d R' M', WR (lastW rs) d → Deck n R' M' → P d M') : spBy M [.tup (rs.map Rw.D)] P :=
  ⟨rs, rfl, ⟨hl, ho⟩, fun d X h => k d _ _ h (hD.app X)⟩
theorem TbR.keep {M M' : St3} {t u m : Nat} {σ : Sg} (h : TbR M t m σ) (k : Frame u M M') (hu : M.length ≤ u) : TbR M' t m σ := by
  obtain ⟨es, h1, h2, h3⟩ := h
  have hl := (List.getElem?_eq_some_iff.mp h1).1
  exact ⟨es, by rw [k.2 t hl (by omega)]; exact h1, h2, fun a e he => (h3 a e he).frame k (.inr hu)⟩
theorem TbR.app {M X : St3} {t m : Nat} {σ : Sg} (h : TbR M t m σ) : TbR (M ++ X) t m σ := h.keep (Frame.app _ _ _) (Nat.le_refl _)
theorem TbR.draw {M M' R : St3} {t m n n2 : Nat} {σ : Sg} (h : TbR M t m σ) (ht : 2 ≤ t) (D1 : Deck n R M) (D2 : Deck n2 R M') : TbR M' t m σ := by
  obtain ⟨es, h1, h2, h3⟩ := h
  have e := Deck.same D1 D2
  have hl : M'.length = M.length := by rw [D1.len, D2.len]
  refine ⟨es, by rw [e t ht]; exact h1, h2, fun a d hd => ?_⟩
  obtain ⟨S, dd, k1, k2, k3, k4, k5⟩ := h3 a d hd
  refine ⟨S, dd, k1, k2, k3, ?_, ?_⟩
  · rcases k5 with ⟨ks, ds, rfl⟩ | ⟨j, rfl, hj, _⟩
    · exact k4
    · rw [vw_obj] at k4 ⊢
      rw [e j (by omega)]; exact k4
  · rcases k5 with k5 | ⟨j, rfl, hj, hjl⟩
    · exact .inl k5
    · exact .inr ⟨j, rfl, hj, by rw [hl]; exact hjl⟩
theorem oIsB_m {neg : Bool} {M : St3} {P : KD} {a b : Bool} : oIsD neg M [.bl a, .bl b] P = P (.bl (neg != decide (a = b))) M := by
  unfold oIsD
  cases a <;> cases b <;> simp
theorem dl_empty_pages {M : St3} {ds : List D} {Q : KD} (h : spNo M ds Q) : td_empty_pages spNo (spNeed mnP) (E0 Q) (ds.map some ++ List.replicate 0 none) M := by
  obtain ⟨m, rfl, ⟨h1, h2⟩, q⟩ := h
  simp only [td_empty_pages, ↓sSeq_u, ↓sNext_u, ↓sBreak_u, ↓sCont_u, ↓sDrop_u, ↓sRet_u, ↓sRetN_u, ↓sIf_u, ↓sAsg_u, ↓sPut_u, ↓sFor_u, ↓dC_u, ↓dNil_u, ↓dCons_u, ↓dBlt_u, ↓dOp2_u, ↓dUn_u, ↓dMeth_u, ↓dCall_u, ↓dCallK_u, ↓dNotT_u, ↓dAndT_u, ↓dOrT_u, ↓dIf_u, ↓dTup_u, ↓dLst_u, ↓dLstO_u, ↓dSl_u, ↓dNoPart_u, ↓dRev_u, ↓dYes_u, ↓dDic0_u, ↓dLc_u, ↓dEnum_u, ↓dZip_u, ↓gtName_u, ↓dSortSet_u, ↓dSetK_u, ↓dDisp_u, ↓dVar_m, ↓dTru_m, ↓dAnd_m, ↓dOr_m, ↓dNot_m, ↓dChain_m, ↓dIter_m, ↓dRange1_m, ↓dPart_m, ↓gtCons_m, ↓gtNil_m, ↓gtTup_m, ↓sPar_m, ↓oAdd_m, ↓oInt_m, ↓oNeg_m, ↓oOrd_m, ↓oIx_m, ↓oLen_m, ↓oToInt_m, ↓oToTup_m, ↓oToList_m, ↓oGet1_m, ↓oUpper_m, ↓oToStr_m, ↓oPop_m, ↓oAppend_m, ↓oPut_m, ↓oSIndex_m, ↓atI_m, ↓getK_m, ↓oSl, ↓oRev, ↓oIsi_T, ↓oMax2I, ↓oMulI, ↓eqI, ↓eqS, ↓eqL, ↓eqT, ↓neI, ↓neS, ↓neL, ↓neT, vw_non, vw_bl, vw_int, vw_str, vw_tup, vw_lst, vw_dic, vw_raw, vw_obj, truD, keyD, itemsOf, mthTy, lenD, seqD, List.map_cons, List.map_nil, List.cons_append, List.nil_append, List.getElem?_cons_zero, List.getElem?_cons_succ, List.getElem?_nil, List.set_cons_zero, List.set_cons_succ, List.length_cons, List.length_nil, ↓reduceIte, Bool.not_true, Bool.not_false, Bool.false_eq_true, true_and, and_true, List.replicate_zero, List.replicate_succ, List.append_nil, ↓sp1_m, ↓spRow_m, ↓spRis_m, ↓spPl_m, ↓spPg_m, ↓spDraw_m, ↓spDrw_m, ↓yes_m, ↓spBetween_m, ↓spNeed_m, ↓in2, ↓oMulT_m, ↓oDPop_m, ↓oRepr_m]
  exact ⟨⟨m, rfl, by omega, by omega⟩, m, rfl, ⟨h1, h2⟩, q⟩
theorem dl_need_row {M : St3} {ds : List D} {Q : KD} (h : spNeed rwP M ds Q) : td_need_row (yes rwP) (E0 Q) (ds.map some ++ List.replicate 0 none) M := by
  obtain ⟨d, rfl, hd, q⟩ := h
  simp only [td_need_row, ↓sSeq_u, ↓sNext_u, ↓sBreak_u, ↓sCont_u, ↓sDrop_u, ↓sRet_u, ↓sRetN_u, ↓sIf_u, ↓sAsg_u, ↓sPut_u, ↓sFor_u, ↓dC_u, ↓dNil_u, ↓dCons_u, ↓dBlt_u, ↓dOp2_u, ↓dUn_u, ↓dMeth_u, ↓dCall_u, ↓dCallK_u, ↓dNotT_u, ↓dAndT_u, ↓dOrT_u, ↓dIf_u, ↓dTup_u, ↓dLst_u, ↓dLstO_u, ↓dSl_u, ↓dNoPart_u, ↓dRev_u, ↓dYes_u, ↓dDic0_u, ↓dLc_u, ↓dEnum_u, ↓dZip_u, ↓gtName_u, ↓dSortSet_u, ↓dSetK_u, ↓dDisp_u, ↓dVar_m, ↓dTru_m, ↓dAnd_m, ↓dOr_m, ↓dNot_m, ↓dChain_m, ↓dIter_m, ↓dRange1_m, ↓dPart_m, ↓gtCons_m, ↓gtNil_m, ↓gtTup_m, ↓sPar_m, ↓oAdd_m, ↓oInt_m, ↓oNeg_m, ↓oOrd_m, ↓oIx_m, ↓oLen_m, ↓oToInt_m, ↓oToTup_m, ↓oToList_m, ↓oGet1_m, ↓oUpper_m, ↓oToStr_m, ↓oPop_m, ↓oAppend_m, ↓oPut_m, ↓oSIndex_m, ↓atI_m, ↓getK_m, ↓oSl, ↓oRev, ↓oIsi_T, ↓oMax2I, ↓oMulI, ↓eqI, ↓eqS, ↓eqL, ↓eqT, ↓neI, ↓neS, ↓neL, ↓neT, vw_non, vw_bl, vw_int, vw_str, vw_tup, vw_lst, vw_dic, vw_raw, vw_obj, truD, keyD, itemsOf, mthTy, lenD, seqD, List.map_cons, List.map_nil, List.cons_append, List.nil_append, List.getElem?_cons_zero, List.getElem?_cons_succ, List.getElem?_nil, List.set_cons_zero, List.set_cons_succ, List.length_cons, List.length_nil, ↓reduceIte, Bool.not_true, Bool.not_false, Bool.false_eq_true, true_and, and_true, List.replicate_zero, List.replicate_succ, List.append_nil, ↓sp1_m, ↓spRow_m, ↓spRis_m, ↓spPl_m, ↓spPg_m, ↓spDraw_m, ↓spDrw_m, ↓yes_m, ↓spBetween_m, ↓spNeed_m, ↓in2, ↓oMulT_m, ↓oDPop_m, ↓oRepr_m]
  exact ⟨hd, q⟩
theorem dl_done {M : St3} {ds : List D} {Q : KD} (h : spDone M ds Q) : td_done spDone (spNeed rwP) (sp1 plP fun d => .bl (isI d)) (spNeed pgsP) (E0 Q) (ds.map some ++ List.replicate 0 none) M := by
  obtain ⟨m, σ, pgs, i, r, rfl, ⟨hP, ⟨m1, m8⟩, ⟨i1, i2⟩, ho⟩, q⟩ := h
  have e1 : Ord4.lt.iB i 1 = false := by simp [Ord4.iB]; omega
  simp only [td_done, isI, e1, ↓sSeq_u, ↓sNext_u, ↓sBreak_u, ↓sCont_u, ↓sDrop_u, ↓sRet_u, ↓sRetN_u, ↓sIf_u, ↓sAsg_u, ↓sPut_u, ↓sFor_u, ↓dC_u, ↓dNil_u, ↓dCons_u, ↓dBlt_u, ↓dOp2_u, ↓dUn_u, ↓dMeth_u, ↓dCall_u, ↓dCallK_u, ↓dNotT_u, ↓dAndT_u, ↓dOrT_u, ↓dIf_u, ↓dTup_u, ↓dLst_u, ↓dLstO_u, ↓dSl_u, ↓dNoPart_u, ↓dRev_u, ↓dYes_u, ↓dDic0_u, ↓dLc_u, ↓dEnum_u, ↓dZip_u, ↓gtName_u, ↓dSortSet_u, ↓dSetK_u, ↓dDisp_u, ↓dVar_m, ↓dTru_m, ↓dAnd_m, ↓dOr_m, ↓dNot_m, ↓dChain_m, ↓dIter_m, ↓dRange1_m, ↓dPart_m, ↓gtCons_m, ↓gtNil_m, ↓gtTup_m, ↓sPar_m, ↓oAdd_m, ↓oInt_m, ↓oNeg_m, ↓oOrd_m, ↓oIx_m, ↓oLen_m, ↓oToInt_m, ↓oToTup_m, ↓oToList_m, ↓oGet1_m, ↓oUpper_m, ↓oToStr_m, ↓oPop_m, ↓oAppend_m, ↓oPut_m, ↓oSIndex_m, ↓atI_m, ↓getK_m, ↓oSl, ↓oRev, ↓oIsi_T, ↓oMax2I, ↓oMulI, ↓eqI, ↓eqS, ↓eqL, ↓eqT, ↓neI, ↓neS, ↓neL, ↓neT, vw_non, vw_bl, vw_int, vw_str, vw_tup, vw_lst, vw_dic, vw_raw, vw_obj, truD, keyD, itemsOf, mthTy, lenD, seqD, List.map_cons, List.map_nil, List.cons_append, List.nil_append, List.getElem?_cons_zero, List.getElem?_cons_succ, List.getElem?_nil, List.set_cons_zero, List.set_cons_succ, List.length_cons, List.length_nil, ↓reduceIte, Bool.not_true, Bool.not_false, Bool.false_eq_true, true_and, and_true, List.replicate_zero, List.replicate_succ, List.append_nil, ↓sp1_m, ↓spRow_m, ↓spRis_m, ↓spPl_m, ↓spPg_m, ↓spDraw_m, ↓spDrw_m, ↓yes_m, ↓spBetween_m, ↓spNeed_m, ↓in2, ↓oMulT_m, ↓oDPop_m, ↓oRepr_m]
  exact ⟨hP.pgs m1 m8, rfl, ⟨r, rfl, ho⟩, m, σ, pgs, i, r, rfl, ⟨hP, ⟨m1, m8⟩, ⟨i1, i2⟩, ho⟩, q⟩
theorem empty_ok {m : Nat} {M : St3} {P : KD} (hm : 1 ≤ m ∧ m ≤ 8) (k : P (.tup (noP m)) M) : spNo M [.int (m : Nat)] P := ⟨m, rfl, hm, k⟩
theorem pick21 {α : Type} (z a b c : α) : pickL z [2, 1, 0] [a, b, c] = [c, b, a] := rfl
theorem mul3 (d : D) : (List.replicate (3 : Int).toNat [d]).flatten = [d, d, d] := rfl
theorem rep3 {a : D} (h : Sm 10648 5 a) : repOk (.tup [a, a, a]) := (Sm.tup (w := 10648) (dp := 5) (n := 3) (fun d hd => by
  simp only [List.mem_cons, List.not_mem_nil, or_false] at hd
  rcases hd with rfl | rfl | rfl <;> exact h) (by simp)).rep (by decide) (by decide)
theorem pgs_vw {M : St3} {pgs : List D} : vw M (.tup pgs) = .tup pgs := rfl
def spLaw : DSp := fun M ds Q => ∃ xs : List Int, ds = [.lst (xs.map .int)] ∧ M = [] ∧ ∀ M', Q (.bl true) M'
theorem dl_law {M : St3} {ds : List D} {Q : KD} (h : spLaw M ds Q) : td_law spDoneAll spTold spDoAll spRows (spDrw 1 (· = []) (fun d => ∃ b, d = .bl b)) spDone spDo spPick spDraw (spDrw 8 (· = []) rwP) spTable spWorths spBy spLW (sp1 plP fun d => .bl (pagesB d)) spNo spDeck (E0 Q) (ds.map some ++ List.replicate 14 none) M := by
  obtain ⟨xs, rfl, rfl, q⟩ := h
  have z : ∀ k, k ≤ 3000 → k ≤ sizeLine := fun k h => sz_le (by omega)
  have hmx : dkMax = 1000000 := rfl
  simp only [td_law, ↓sSeq_u, ↓sNext_u, ↓sBreak_u, ↓sCont_u, ↓sDrop_u, ↓sRet_u, ↓sRetN_u, ↓sIf_u, ↓sAsg_u, ↓sPut_u, ↓dC_u, ↓dNil_u, ↓dCons_u, ↓dBlt_u, ↓dOp2_u, ↓dUn_u, ↓dMeth_u, ↓dCall_u, ↓dCallK_u, ↓dNotT_u, ↓dAndT_u, ↓dOrT_u, ↓dIf_u, ↓dTup_u, ↓dLst_u, ↓dLstO_u, ↓dSl_u, ↓dNoPart_u, ↓dRev_u, ↓dYes_u, ↓dDic0_u, ↓dLc_u, ↓dEnum_u, ↓dZip_u, ↓gtName_u, ↓dSortSet_u, ↓dSetK_u, ↓dDisp_u, ↓dVar_m, ↓dTru_m, ↓dAnd_m, ↓dOr_m, ↓dNot_m, ↓dChain_m, ↓dIter_m, ↓dRange1_m, ↓dPart_m, ↓gtCons_m, ↓gtNil_m, ↓gtTup_m, ↓sPar_m, ↓oAdd_m, ↓oInt_m, ↓oNeg_m, ↓oOrd_m, ↓oIx_m, ↓oLen_m, ↓oToInt_m, ↓oToTup_m, ↓oToList_m, ↓oGet1_m, ↓oUpper_m, ↓oToStr_m, ↓oPop_m, ↓oAppend_m, ↓oPut_m, ↓oSIndex_m, ↓atI_m, ↓getK_m, ↓oSl, ↓oRev, ↓oIsi_T, ↓oMax2I, ↓oMulI, ↓eqI, ↓eqS, ↓eqL, ↓eqT, ↓neI, ↓neS, ↓neL, ↓neT, vw_non, vw_bl, vw_int, vw_str, vw_tup, vw_lst, vw_dic, vw_raw, vw_obj, truD, keyD, itemsOf, mthTy, lenD, seqD, List.map_cons, List.map_nil, List.cons_append, List.nil_append, List.getElem?_cons_zero, List.getElem?_cons_succ, List.getElem?_nil, List.set_cons_zero, List.set_cons_succ, List.length_cons, List.length_nil, ↓reduceIte, Bool.not_true, Bool.not_false, Bool.false_eq_true, true_and, and_true, List.replicate_zero, List.replicate_succ, List.append_nil, ↓sp1_m, ↓spRow_m, ↓spRis_m, ↓spPl_m, ↓spPg_m, ↓spDraw_m, ↓spDrw_m, ↓yes_m, ↓spBetween_m, ↓spNeed_m, ↓in2, ↓oMulT_m, ↓oDPop_m, ↓oRepr_m]
  refine ⟨xs, rfl, rfl, fun M1 hD1 => ?_⟩
  simp only [↓sSeq_u, ↓sNext_u, ↓sBreak_u, ↓sCont_u, ↓sDrop_u, ↓sRet_u, ↓sRetN_u, ↓sIf_u, ↓sAsg_u, ↓sPut_u, ↓sFor_u, ↓dC_u, ↓dNil_u, ↓dCons_u, ↓dBlt_u, ↓dOp2_u, ↓dUn_u, ↓dMeth_u, ↓dCall_u, ↓dCallK_u, ↓dNotT_u, ↓dAndT_u, ↓dOrT_u, ↓dIf_u, ↓dTup_u, ↓dLst_u, ↓dLstO_u, ↓dSl_u, ↓dNoPart_u, ↓dRev_u, ↓dYes_u, ↓dDic0_u, ↓dLc_u, ↓dEnum_u, ↓dZip_u, ↓gtName_u, ↓dSortSet_u, ↓dSetK_u, ↓dDisp_u, ↓dVar_m, ↓dTru_m, ↓dAnd_m, ↓dOr_m, ↓dNot_m, ↓dChain_m, ↓dIter_m, ↓dRange1_m, ↓dPart_m, ↓gtCons_m, ↓gtNil_m, ↓gtTup_m, ↓sPar_m, ↓oAdd_m, ↓oInt_m, ↓oNeg_m, ↓oOrd_m, ↓oIx_m, ↓oLen_m, ↓oToInt_m, ↓oToTup_m, ↓oToList_m, ↓oGet1_m, ↓oUpper_m, ↓oToStr_m, ↓oPop_m, ↓oAppend_m, ↓oPut_m, ↓oSIndex_m, ↓atI_m, ↓getK_m, ↓oSl, ↓oRev, ↓oIsi_T, ↓oMax2I, ↓oMulI, ↓eqI, ↓eqS, ↓eqL, ↓eqT, ↓neI, ↓neS, ↓neL, ↓neT, vw_non, vw_bl, vw_int, vw_str, vw_tup, vw_lst, vw_dic, vw_raw, vw_obj, truD, keyD, itemsOf, mthTy, lenD, seqD, List.map_cons, List.map_nil, List.cons_append, List.nil_append, List.getElem?_cons_zero, List.getElem?_cons_succ, List.getElem?_nil, List.set_cons_zero, List.set_cons_succ, List.length_cons, List.length_nil, ↓reduceIte, Bool.not_true, Bool.not_false, Bool.false_eq_true, true_and, and_true, List.replicate_zero, List.replicate_succ, List.append_nil, ↓sp1_m, ↓spRow_m, ↓spRis_m, ↓spPl_m, ↓spPg_m, ↓spDraw_m, ↓spDrw_m, ↓yes_m, ↓spBetween_m, ↓spNeed_m, ↓in2, ↓oMulT_m, ↓oDPop_m, ↓oRepr_m]
  refine ⟨⟨by decide, by decide⟩, ?_⟩
  refine forGo_inv (fun i env M => ∃ (a b c d e f g h j k l o p : Option D) (R : St3), env = [some (.lst (xs.map .int)), some (.obj 1), a, b, c, d, e, f, g, h, j, k, l, o, p] ∧ Deck (3000 * i) R M) ?_ ?_ ⟨_, _, _, _, _, _, _, _, _, _, _, _, _, _, rfl, hD1⟩
  rotate_left
  · rintro env M ⟨a, b, c, d, e, f, g, h, j, k, l, o, p, R, rfl, hD⟩
    refine ⟨trivial, ?_⟩
    simp only [↓sSeq_u, ↓sNext_u, ↓sBreak_u, ↓sCont_u, ↓sDrop_u, ↓sRet_u, ↓sRetN_u, ↓sIf_u, ↓sAsg_u, ↓sPut_u, ↓sFor_u, ↓dC_u, ↓dNil_u, ↓dCons_u, ↓dBlt_u, ↓dOp2_u, ↓dUn_u, ↓dMeth_u, ↓dCall_u, ↓dCallK_u, ↓dNotT_u, ↓dAndT_u, ↓dOrT_u, ↓dIf_u, ↓dTup_u, ↓dLst_u, ↓dLstO_u, ↓dSl_u, ↓dNoPart_u, ↓dRev_u, ↓dYes_u, ↓dDic0_u, ↓dLc_u, ↓dEnum_u, ↓dZip_u, ↓gtName_u, ↓dSortSet_u, ↓dSetK_u, ↓dDisp_u, ↓dVar_m, ↓dTru_m, ↓dAnd_m, ↓dOr_m, ↓dNot_m, ↓dChain_m, ↓dIter_m, ↓dRange1_m, ↓dPart_m, ↓gtCons_m, ↓gtNil_m, ↓gtTup_m, ↓sPar_m, ↓oAdd_m, ↓oInt_m, ↓oNeg_m, ↓oOrd_m, ↓oIx_m, ↓oLen_m, ↓oToInt_m, ↓oToTup_m, ↓oToList_m, ↓oGet1_m, ↓oUpper_m, ↓oToStr_m, ↓oPop_m, ↓oAppend_m, ↓oPut_m, ↓oSIndex_m, ↓atI_m, ↓getK_m, ↓oSl, ↓oRev, ↓oIsi_T, ↓oMax2I, ↓oMulI, ↓eqI, ↓eqS, ↓eqL, ↓eqT, ↓neI, ↓neS, ↓neL, ↓neT, vw_non, vw_bl, vw_int, vw_str, vw_tup, vw_lst, vw_dic, vw_raw, vw_obj, truD, keyD, itemsOf, mthTy, lenD, seqD, List.map_cons, List.map_nil, List.cons_append, List.nil_append, List.getElem?_cons_zero, List.getElem?_cons_succ, List.getElem?_nil, List.set_cons_zero, List.set_cons_succ, List.length_cons, List.length_nil, ↓reduceIte, Bool.not_true, Bool.not_false, Bool.false_eq_true, true_and, and_true, List.replicate_zero, List.replicate_succ, List.append_nil, ↓sp1_m, ↓spRow_m, ↓spRis_m, ↓spPl_m, ↓spPg_m, ↓spDraw_m, ↓spDrw_m, ↓yes_m, ↓spBetween_m, ↓spNeed_m, ↓in2, ↓oMulT_m, ↓oDPop_m, ↓oRepr_m]
    exact q M
  rintro i x env M hx ⟨a, b, c, d, e, f, g, h, j, k, l, o, p, R, rfl, hD⟩ N hN
  have hi : i < 3 := by
    have := (List.getElem?_eq_some_iff.mp hx).1
    simpa [seqI] using this
  refine ⟨trivial, ?_⟩
  simp only [↓sSeq_u, ↓sNext_u, ↓sBreak_u, ↓sCont_u, ↓sDrop_u, ↓sRet_u, ↓sRetN_u, ↓sIf_u, ↓sAsg_u, ↓sPut_u, ↓dC_u, ↓dNil_u, ↓dCons_u, ↓dBlt_u, ↓dOp2_u, ↓dUn_u, ↓dMeth_u, ↓dCall_u, ↓dCallK_u, ↓dNotT_u, ↓dAndT_u, ↓dOrT_u, ↓dIf_u, ↓dTup_u, ↓dLst_u, ↓dLstO_u, ↓dSl_u, ↓dNoPart_u, ↓dRev_u, ↓dYes_u, ↓dDic0_u, ↓dLc_u, ↓dEnum_u, ↓dZip_u, ↓gtName_u, ↓dSortSet_u, ↓dSetK_u, ↓dDisp_u, ↓dVar_m, ↓dTru_m, ↓dAnd_m, ↓dOr_m, ↓dNot_m, ↓dChain_m, ↓dIter_m, ↓dRange1_m, ↓dPart_m, ↓gtCons_m, ↓gtNil_m, ↓gtTup_m, ↓sPar_m, ↓oAdd_m, ↓oInt_m, ↓oNeg_m, ↓oOrd_m, ↓oIx_m, ↓oLen_m, ↓oToInt_m, ↓oToTup_m, ↓oToList_m, ↓oGet1_m, ↓oUpper_m, ↓oToStr_m, ↓oPop_m, ↓oAppend_m, ↓oPut_m, ↓oSIndex_m, ↓atI_m, ↓getK_m, ↓oSl, ↓oRev, ↓oIsi_T, ↓oMax2I, ↓oMulI, ↓eqI, ↓eqS, ↓eqL, ↓eqT, ↓neI, ↓neS, ↓neL, ↓neT, vw_non, vw_bl, vw_int, vw_str, vw_tup, vw_lst, vw_dic, vw_raw, vw_obj, truD, keyD, itemsOf, mthTy, lenD, seqD, List.map_cons, List.map_nil, List.cons_append, List.nil_append, List.getElem?_cons_zero, List.getElem?_cons_succ, List.getElem?_nil, List.set_cons_zero, List.set_cons_succ, List.length_cons, List.length_nil, ↓reduceIte, Bool.not_true, Bool.not_false, Bool.false_eq_true, true_and, and_true, List.replicate_zero, List.replicate_succ, List.append_nil, ↓sp1_m, ↓spRow_m, ↓spRis_m, ↓spPl_m, ↓spPg_m, ↓spDraw_m, ↓spDrw_m, ↓yes_m, ↓spBetween_m, ↓spNeed_m, ↓in2, ↓oMulT_m, ↓oDPop_m, ↓oRepr_m]
  refine ⟨20, 3000 * i, R, rfl, by decide, by omega, hD, fun x1 M2 hx1 hD2 => ?_⟩
  obtain ⟨rs, rfl, hrl, hro⟩ := hx1
  simp only [↓sSeq_u, ↓sNext_u, ↓sBreak_u, ↓sCont_u, ↓sDrop_u, ↓sRet_u, ↓sRetN_u, ↓sAsg_u, ↓sPut_u, ↓sFor_u, ↓dC_u, ↓dNil_u, ↓dCons_u, ↓dBlt_u, ↓dOp2_u, ↓dUn_u, ↓dMeth_u, ↓dCall_u, ↓dCallK_u, ↓dNotT_u, ↓dAndT_u, ↓dOrT_u, ↓dIf_u, ↓dTup_u, ↓dLst_u, ↓dLstO_u, ↓dSl_u, ↓dNoPart_u, ↓dRev_u, ↓dYes_u, ↓dDic0_u, ↓dLc_u, ↓dEnum_u, ↓dZip_u, ↓gtName_u, ↓dSortSet_u, ↓dSetK_u, ↓dDisp_u, ↓dVar_m, ↓dTru_m, ↓dAnd_m, ↓dOr_m, ↓dNot_m, ↓dChain_m, ↓dIter_m, ↓dRange1_m, ↓dPart_m, ↓gtCons_m, ↓gtNil_m, ↓gtTup_m, ↓oAdd_m, ↓oInt_m, ↓oNeg_m, ↓oOrd_m, ↓oIx_m, ↓oLen_m, ↓oToInt_m, ↓oToTup_m, ↓oToList_m, ↓oGet1_m, ↓oUpper_m, ↓oToStr_m, ↓oPop_m, ↓oAppend_m, ↓oPut_m, ↓oSIndex_m, ↓atI_m, ↓getK_m, ↓oSl, ↓oRev, ↓oIsi_T, ↓oMax2I, ↓oMulI, ↓eqI, ↓eqS, ↓eqL, ↓eqT, ↓neI, ↓neS, ↓neL, ↓neT, vw_non, vw_bl, vw_int, vw_str, vw_tup, vw_lst, vw_dic, vw_raw, vw_obj, truD, keyD, itemsOf, mthTy, lenD, seqD, List.map_cons, List.map_nil, List.cons_append, List.nil_append, List.getElem?_cons_zero, List.getElem?_cons_succ, List.getElem?_nil, List.set_cons_zero, List.set_cons_succ, List.length_cons, List.length_nil, ↓reduceIte, Bool.not_true, Bool.not_false, Bool.false_eq_true, true_and, and_true, List.replicate_zero, List.replicate_succ, List.append_nil, ↓sp1_m, ↓spRow_m, ↓spRis_m, ↓spPl_m, ↓spPg_m, ↓spDraw_m, ↓spDrw_m, ↓yes_m, ↓spBetween_m, ↓spNeed_m, ↓in2, ↓oMulT_m, ↓oDPop_m, ↓oRepr_m]
  refine ⟨_, _, ⟨⟨by decide, by decide⟩, by omega⟩, hD2, fun r M3 r0 r1 hD3 => ?_⟩
  obtain ⟨m, em⟩ : ∃ m : Nat, 1 + r = (m : Nat) := ⟨(1 + r).toNat, by omega⟩
  have hm : 1 ≤ m ∧ m ≤ 8 := by omega
  have hrl' : rs.length ≤ 100 := by omega
  rw [em]
  refine told_ok hD3 hm hrl' hro fun pw R4 M4 hPw hD4 => ?_
  have sP := sm_pgs hPw hm.2
  refine empty_ok hm ?_
  refine done_ok hD4 (PgsR.s0 m) hm hrl' hro fun pg R5 M5 hPg hD5 => ?_
  have e1 := hPg.uniq hPw
  subst e1
  refine ⟨z _ (by decide), z _ (by decide), z _ (by decide), ⟨by simp, by omega, by omega, by simp⟩, ?_⟩
  rw [pick10, rep1]
  refine done_ok hD5 (PgsR.s0 m) hm hrl' hro fun pg2 R6 M6 hPg2 hD6 => ?_
  have e2 := hPg2.uniq hPw
  subst e2
  have hpp := hPw.pgs hm.1 hm.2
  refine ⟨z _ (by decide), rep2 sP sP, z _ (by decide), rep2 sP sP, ?_⟩
  simp only [decide_true, ↓sSeq_u, ↓sNext_u, ↓sBreak_u, ↓sCont_u, ↓sDrop_u, ↓sRet_u, ↓sRetN_u, ↓sAsg_u, ↓sPut_u, ↓sFor_u, ↓dC_u, ↓dNil_u, ↓dCons_u, ↓dBlt_u, ↓dOp2_u, ↓dUn_u, ↓dMeth_u, ↓dCall_u, ↓dCallK_u, ↓dNotT_u, ↓dAndT_u, ↓dOrT_u, ↓dIf_u, ↓dTup_u, ↓dLst_u, ↓dLstO_u, ↓dSl_u, ↓dNoPart_u, ↓dRev_u, ↓dYes_u, ↓dDic0_u, ↓dLc_u, ↓dEnum_u, ↓dZip_u, ↓gtName_u, ↓dSortSet_u, ↓dSetK_u, ↓dDisp_u, ↓dVar_m, ↓dTru_m, ↓dAnd_m, ↓dOr_m, ↓dNot_m, ↓dChain_m, ↓dIter_m, ↓dRange1_m, ↓dPart_m, ↓gtCons_m, ↓gtNil_m, ↓gtTup_m, ↓oAdd_m, ↓oInt_m, ↓oNeg_m, ↓oOrd_m, ↓oIx_m, ↓oLen_m, ↓oToInt_m, ↓oToTup_m, ↓oToList_m, ↓oGet1_m, ↓oUpper_m, ↓oToStr_m, ↓oPop_m, ↓oAppend_m, ↓oPut_m, ↓oSIndex_m, ↓atI_m, ↓getK_m, ↓oSl, ↓oRev, ↓oIsi_T, ↓oMax2I, ↓oMulI, ↓eqI, ↓eqS, ↓eqL, ↓eqT, ↓neI, ↓neS, ↓neL, ↓neT, vw_non, vw_bl, vw_int, vw_str, vw_tup, vw_lst, vw_dic, vw_raw, vw_obj, truD, keyD, itemsOf, mthTy, lenD, seqD, List.map_cons, List.map_nil, List.cons_append, List.nil_append, List.getElem?_cons_zero, List.getElem?_cons_succ, List.getElem?_nil, List.set_cons_zero, List.set_cons_succ, List.length_cons, List.length_nil, ↓reduceIte, Bool.not_true, Bool.not_false, Bool.false_eq_true, true_and, and_true, List.replicate_zero, List.replicate_succ, List.append_nil, ↓sp1_m, ↓spRow_m, ↓spRis_m, ↓spPl_m, ↓spPg_m, ↓spDraw_m, ↓spDrw_m, ↓yes_m, ↓spBetween_m, ↓spNeed_m, ↓in2, ↓oMulT_m, ↓oDPop_m, ↓oRepr_m]
  refine ⟨hpp.1, ?_⟩
  rw [oIsB_m, hpp.2]
  simp only [decide_true, bne_self_eq_false, ↓sSeq_u, ↓sNext_u, ↓sBreak_u, ↓sCont_u, ↓sDrop_u, ↓sRet_u, ↓sRetN_u, ↓sAsg_u, ↓sPut_u, ↓sFor_u, ↓dC_u, ↓dNil_u, ↓dCons_u, ↓dBlt_u, ↓dOp2_u, ↓dUn_u, ↓dMeth_u, ↓dCall_u, ↓dCallK_u, ↓dNotT_u, ↓dAndT_u, ↓dOrT_u, ↓dIf_u, ↓dTup_u, ↓dLst_u, ↓dLstO_u, ↓dSl_u, ↓dNoPart_u, ↓dRev_u, ↓dYes_u, ↓dDic0_u, ↓dLc_u, ↓dEnum_u, ↓dZip_u, ↓gtName_u, ↓dSortSet_u, ↓dSetK_u, ↓dDisp_u, ↓dVar_m, ↓dTru_m, ↓dAnd_m, ↓dOr_m, ↓dNot_m, ↓dChain_m, ↓dIter_m, ↓dRange1_m, ↓dPart_m, ↓gtCons_m, ↓gtNil_m, ↓gtTup_m, ↓oAdd_m, ↓oInt_m, ↓oNeg_m, ↓oOrd_m, ↓oIx_m, ↓oLen_m, ↓oToInt_m, ↓oToTup_m, ↓oToList_m, ↓oGet1_m, ↓oUpper_m, ↓oToStr_m, ↓oPop_m, ↓oAppend_m, ↓oPut_m, ↓oSIndex_m, ↓atI_m, ↓getK_m, ↓oSl, ↓oRev, ↓oIsi_T, ↓oMax2I, ↓oMulI, ↓eqI, ↓eqS, ↓eqL, ↓eqT, ↓neI, ↓neS, ↓neL, ↓neT, vw_non, vw_bl, vw_int, vw_str, vw_tup, vw_lst, vw_dic, vw_raw, vw_obj, truD, keyD, itemsOf, mthTy, lenD, seqD, List.map_cons, List.map_nil, List.cons_append, List.nil_append, List.getElem?_cons_zero, List.getElem?_cons_succ, List.getElem?_nil, List.set_cons_zero, List.set_cons_succ, List.length_cons, List.length_nil, ↓reduceIte, Bool.not_true, Bool.not_false, Bool.false_eq_true, true_and, and_true, List.replicate_zero, List.replicate_succ, List.append_nil, ↓sp1_m, ↓spRow_m, ↓spRis_m, ↓spPl_m, ↓spPg_m, ↓spDraw_m, ↓spDrw_m, ↓yes_m, ↓spBetween_m, ↓spNeed_m, ↓in2, ↓oMulT_m, ↓oDPop_m, ↓oRepr_m]
  refine lw_ok hD6 hrl' hro fun dW R7 M7 hW hD7 => ?_
  have sW := sm_WR hW
  refine by_ok hD7 hrl' hro fun d1 R8 M8 h1 hD8 => ?_
  have e3 := h1.uniq hW
  subst e3
  rw [pick1]
  refine by_ok hD8 hrl' hro fun d2 R9 M9 h2 hD9 => ?_
  have e4 := h2.uniq hW
  subst e4
  refine worths_ok hPw hm hW ?_
  rw [mul3]
  refine ⟨z _ (by decide), rep3 sW, z _ (by decide), ⟨by simp, by decide, by decide, by simp⟩, rep3 sW, ?_⟩
  simp only [decide_true, ↓sSeq_u, ↓sNext_u, ↓sBreak_u, ↓sCont_u, ↓sDrop_u, ↓sRet_u, ↓sRetN_u, ↓sAsg_u, ↓sPut_u, ↓sFor_u, ↓dC_u, ↓dNil_u, ↓dCons_u, ↓dBlt_u, ↓dOp2_u, ↓dUn_u, ↓dMeth_u, ↓dCall_u, ↓dCallK_u, ↓dNotT_u, ↓dAndT_u, ↓dOrT_u, ↓dIf_u, ↓dTup_u, ↓dLst_u, ↓dLstO_u, ↓dSl_u, ↓dNoPart_u, ↓dRev_u, ↓dYes_u, ↓dDic0_u, ↓dLc_u, ↓dEnum_u, ↓dZip_u, ↓gtName_u, ↓dSortSet_u, ↓dSetK_u, ↓dDisp_u, ↓dVar_m, ↓dTru_m, ↓dAnd_m, ↓dOr_m, ↓dNot_m, ↓dChain_m, ↓dIter_m, ↓dRange1_m, ↓dPart_m, ↓gtCons_m, ↓gtNil_m, ↓gtTup_m, ↓oAdd_m, ↓oInt_m, ↓oNeg_m, ↓oOrd_m, ↓oIx_m, ↓oLen_m, ↓oToInt_m, ↓oToTup_m, ↓oToList_m, ↓oGet1_m, ↓oUpper_m, ↓oToStr_m, ↓oPop_m, ↓oAppend_m, ↓oPut_m, ↓oSIndex_m, ↓atI_m, ↓getK_m, ↓oSl, ↓oRev, ↓oIsi_T, ↓oMax2I, ↓oMulI, ↓eqI, ↓eqS, ↓eqL, ↓eqT, ↓neI, ↓neS, ↓neL, ↓neT, vw_non, vw_bl, vw_int, vw_str, vw_tup, vw_lst, vw_dic, vw_raw, vw_obj, truD, keyD, itemsOf, mthTy, lenD, seqD, List.map_cons, List.map_nil, List.cons_append, List.nil_append, List.getElem?_cons_zero, List.getElem?_cons_succ, List.getElem?_nil, List.set_cons_zero, List.set_cons_succ, List.length_cons, List.length_nil, ↓reduceIte, Bool.not_true, Bool.not_false, Bool.false_eq_true, true_and, and_true, List.replicate_zero, List.replicate_succ, List.append_nil, ↓sp1_m, ↓spRow_m, ↓spRis_m, ↓spPl_m, ↓spPg_m, ↓spDraw_m, ↓spDrw_m, ↓yes_m, ↓spBetween_m, ↓spNeed_m, ↓in2, ↓oMulT_m, ↓oDPop_m, ↓oRepr_m]
  -- the table, and rows done one by one
  refine ⟨m, rfl, hm, fun M10 hT10 hF10 => ⟨_, m, s0, rs, _, rfl, .inl rfl, ⟨hT10, hm, hrl', hro⟩, fun M11 hT11 hF11 => ?_⟩⟩
  obtain ⟨R11, hD11⟩ := (hF10.trans hF11).deck hD9 (by rw [hD9.len]; omega)
  have ht : 2 ≤ M9.length := by rw [hD9.len]; omega
  generalize M9.length = t at *
  refine ⟨⟨by decide, by decide⟩, ?_⟩
  refine forGo_inv (fun j env M => ∃ (a b c d e f g h : Option D) (σ : Sg) (pg : List D) (R : St3), env = [some (.lst (xs.map .int)), some (.obj 1), some x, some (.lst (rs.map Rw.D)), some (.int (m : Nat)), a, b, c, some (.obj t), some (.tup pg), d, e, f, g, h] ∧ PgsR m σ pg ∧ TbR M t m σ ∧ Deck (3000 * i + 1000 + 1 + 20 * j) R M) ?_ ?_ ⟨_, _, _, _, _, _, _, _, _, _, _, rfl, hPw, hT11, hD11⟩
  · rintro jj y env M12 hy ⟨a, b, c, d, e, f, g, h, σ, pgj, R12, rfl, hPj, hTj, hDj⟩ N2 hN2
    have hj : jj < 5 := by
      have := (List.getElem?_eq_some_iff.mp hy).1
      simpa [seqI] using this
    refine ⟨trivial, ?_⟩
    simp only [↓sSeq_u, ↓sNext_u, ↓sBreak_u, ↓sCont_u, ↓sDrop_u, ↓sRet_u, ↓sRetN_u, ↓sAsg_u, ↓sPut_u, ↓sFor_u, ↓dC_u, ↓dNil_u, ↓dCons_u, ↓dBlt_u, ↓dOp2_u, ↓dUn_u, ↓dMeth_u, ↓dCall_u, ↓dCallK_u, ↓dNotT_u, ↓dAndT_u, ↓dOrT_u, ↓dIf_u, ↓dTup_u, ↓dLst_u, ↓dLstO_u, ↓dSl_u, ↓dNoPart_u, ↓dRev_u, ↓dYes_u, ↓dDic0_u, ↓dLc_u, ↓dEnum_u, ↓dZip_u, ↓gtName_u, ↓dSortSet_u, ↓dSetK_u, ↓dDisp_u, ↓dVar_m, ↓dTru_m, ↓dAnd_m, ↓dOr_m, ↓dNot_m, ↓dChain_m, ↓dIter_m, ↓dRange1_m, ↓dPart_m, ↓gtCons_m, ↓gtNil_m, ↓gtTup_m, ↓sPar_m, ↓oAdd_m, ↓oInt_m, ↓oNeg_m, ↓oOrd_m, ↓oIx_m, ↓oLen_m, ↓oToInt_m, ↓oToTup_m, ↓oToList_m, ↓oGet1_m, ↓oUpper_m, ↓oToStr_m, ↓oPop_m, ↓oAppend_m, ↓oPut_m, ↓oSIndex_m, ↓atI_m, ↓getK_m, ↓oSl, ↓oRev, ↓oIsi_T, ↓oMax2I, ↓oMulI, ↓eqI, ↓eqS, ↓eqL, ↓eqT, ↓neI, ↓neS, ↓neL, ↓neT, vw_non, vw_bl, vw_int, vw_str, vw_tup, vw_lst, vw_dic, vw_raw, vw_obj, truD, keyD, itemsOf, mthTy, lenD, seqD, List.map_cons, List.map_nil, List.cons_append, List.nil_append, List.getElem?_cons_zero, List.getElem?_cons_succ, List.getElem?_nil, List.set_cons_zero, List.set_cons_succ, List.length_cons, List.length_nil, ↓reduceIte, Bool.not_true, Bool.not_false, Bool.false_eq_true, true_and, and_true, List.replicate_zero, List.replicate_succ, List.append_nil, ↓sp1_m, ↓spRow_m, ↓spRis_m, ↓spPl_m, ↓spPg_m, ↓spDraw_m, ↓spDrw_m, ↓yes_m, ↓spBetween_m, ↓spNeed_m, ↓in2, ↓oMulT_m, ↓oDPop_m, ↓oRepr_m]
    refine ⟨_, R12, by omega, hDj, fun xr M13 hxr hD13 => ⟨_, R12, ⟨⟨by decide, by decide⟩, by omega⟩, hD13, fun r2 M14 r20 r21 hD14 => ⟨z _ (by decide), ?_⟩⟩⟩
    obtain ⟨rw, rfl, hrw⟩ := hxr
    refine pick_ok (P := fun d => ∃ k : Int, d = .int k ∧ 0 ≤ k ∧ k ≤ 100) (by simp) (by simp) (by omega) hD14 ?_ fun xk M15 hxk hD15 => ?_
    · intro x hx
      simp only [List.mem_cons, List.not_mem_nil, or_false] at hx
      rcases hx with rfl | rfl | rfl | rfl
      · exact ⟨_, rfl, by decide, by decide⟩
      · exact ⟨_, rfl, by omega, by rw [List.length_map]; omega⟩
      · exact ⟨_, rfl, by omega, by rw [List.length_map]; omega⟩
      · exact ⟨_, rfl, by omega, by omega⟩
    obtain ⟨k, rfl, hk0, hk1⟩ := hxk
    have hT15 : TbR M15 t m σ := hTj.draw ht hDj hD15
    rw [sIf_u]
    simp only [↓sSeq_u, ↓sNext_u, ↓sBreak_u, ↓sCont_u, ↓sDrop_u, ↓sRet_u, ↓sRetN_u, ↓sAsg_u, ↓sPut_u, ↓sFor_u, ↓dC_u, ↓dNil_u, ↓dCons_u, ↓dBlt_u, ↓dOp2_u, ↓dUn_u, ↓dMeth_u, ↓dCall_u, ↓dCallK_u, ↓dNotT_u, ↓dAndT_u, ↓dOrT_u, ↓dIf_u, ↓dTup_u, ↓dLst_u, ↓dLstO_u, ↓dSl_u, ↓dNoPart_u, ↓dRev_u, ↓dYes_u, ↓dDic0_u, ↓dLc_u, ↓dEnum_u, ↓dZip_u, ↓gtName_u, ↓dSortSet_u, ↓dSetK_u, ↓dDisp_u, ↓dVar_m, ↓dTru_m, ↓dAnd_m, ↓dOr_m, ↓dNot_m, ↓dChain_m, ↓dIter_m, ↓dRange1_m, ↓dPart_m, ↓gtCons_m, ↓gtNil_m, ↓gtTup_m, ↓sPar_m, ↓oAdd_m, ↓oInt_m, ↓oNeg_m, ↓oOrd_m, ↓oIx_m, ↓oLen_m, ↓oToInt_m, ↓oToTup_m, ↓oToList_m, ↓oGet1_m, ↓oUpper_m, ↓oToStr_m, ↓oPop_m, ↓oAppend_m, ↓oPut_m, ↓oSIndex_m, ↓atI_m, ↓getK_m, ↓oSl, ↓oRev, ↓oIsi_T, ↓oMax2I, ↓oMulI, ↓eqI, ↓eqS, ↓eqL, ↓eqT, ↓neI, ↓neS, ↓neL, ↓neT, vw_non, vw_bl, vw_int, vw_str, vw_tup, vw_lst, vw_dic, vw_raw, vw_obj, truD, keyD, itemsOf, mthTy, lenD, seqD, List.map_cons, List.map_nil, List.cons_append, List.nil_append, List.getElem?_cons_zero, List.getElem?_cons_succ, List.getElem?_nil, List.set_cons_zero, List.set_cons_succ, List.length_cons, List.length_nil, ↓reduceIte, Bool.not_true, Bool.not_false, Bool.false_eq_true, true_and, and_true, List.replicate_zero, List.replicate_succ, List.append_nil, ↓sp1_m, ↓spRow_m, ↓spRis_m, ↓spPl_m, ↓spPg_m, ↓spDraw_m, ↓spDrw_m, ↓yes_m, ↓spBetween_m, ↓spNeed_m, ↓in2, ↓oMulT_m, ↓oDPop_m, ↓oRepr_m]
    by_cases hk : k < 1
    · have h1 : Ord4.lt.iB k 1 = true := by simpa [Ord4.iB] using hk
      simp only [h1, ↓sSeq_u, ↓sNext_u, ↓sBreak_u, ↓sCont_u, ↓sDrop_u, ↓sRet_u, ↓sRetN_u, ↓sAsg_u, ↓sPut_u, ↓sFor_u, ↓dC_u, ↓dNil_u, ↓dCons_u, ↓dBlt_u, ↓dOp2_u, ↓dUn_u, ↓dMeth_u, ↓dCall_u, ↓dCallK_u, ↓dNotT_u, ↓dAndT_u, ↓dOrT_u, ↓dIf_u, ↓dTup_u, ↓dLst_u, ↓dLstO_u, ↓dSl_u, ↓dNoPart_u, ↓dRev_u, ↓dYes_u, ↓dDic0_u, ↓dLc_u, ↓dEnum_u, ↓dZip_u, ↓gtName_u, ↓dSortSet_u, ↓dSetK_u, ↓dDisp_u, ↓dVar_m, ↓dTru_m, ↓dAnd_m, ↓dOr_m, ↓dNot_m, ↓dChain_m, ↓dIter_m, ↓dRange1_m, ↓dPart_m, ↓gtCons_m, ↓gtNil_m, ↓gtTup_m, ↓sPar_m, ↓oAdd_m, ↓oInt_m, ↓oNeg_m, ↓oOrd_m, ↓oIx_m, ↓oLen_m, ↓oToInt_m, ↓oToTup_m, ↓oToList_m, ↓oGet1_m, ↓oUpper_m, ↓oToStr_m, ↓oPop_m, ↓oAppend_m, ↓oPut_m, ↓oSIndex_m, ↓atI_m, ↓getK_m, ↓oSl, ↓oRev, ↓oIsi_T, ↓oMax2I, ↓oMulI, ↓eqI, ↓eqS, ↓eqL, ↓eqT, ↓neI, ↓neS, ↓neL, ↓neT, vw_non, vw_bl, vw_int, vw_str, vw_tup, vw_lst, vw_dic, vw_raw, vw_obj, truD, keyD, itemsOf, mthTy, lenD, seqD, List.map_cons, List.map_nil, List.cons_append, List.nil_append, List.getElem?_cons_zero, List.getElem?_cons_succ, List.getElem?_nil, List.set_cons_zero, List.set_cons_succ, List.length_cons, List.length_nil, ↓reduceIte, Bool.not_true, Bool.not_false, Bool.false_eq_true, true_and, and_true, List.replicate_zero, List.replicate_succ, List.append_nil, ↓sp1_m, ↓spRow_m, ↓spRis_m, ↓spPl_m, ↓spPg_m, ↓spDraw_m, ↓spDrw_m, ↓yes_m, ↓spBetween_m, ↓spNeed_m, ↓in2, ↓oMulT_m, ↓oDPop_m, ↓oRepr_m]
      exact hN2 _ _ ⟨_, _, _, _, _, _, _, _, σ, pgj, R12, rfl, hPj, hT15, hD15.mono (by omega)⟩
    have h1 : Ord4.lt.iB k 1 = false := by simpa [Ord4.iB] using hk
    simp only [h1, ↓sSeq_u, ↓sNext_u, ↓sBreak_u, ↓sCont_u, ↓sDrop_u, ↓sRet_u, ↓sRetN_u, ↓sAsg_u, ↓sPut_u, ↓sFor_u, ↓dC_u, ↓dNil_u, ↓dCons_u, ↓dBlt_u, ↓dOp2_u, ↓dUn_u, ↓dMeth_u, ↓dCall_u, ↓dCallK_u, ↓dNotT_u, ↓dAndT_u, ↓dOrT_u, ↓dIf_u, ↓dTup_u, ↓dLst_u, ↓dLstO_u, ↓dSl_u, ↓dNoPart_u, ↓dRev_u, ↓dYes_u, ↓dDic0_u, ↓dLc_u, ↓dEnum_u, ↓dZip_u, ↓gtName_u, ↓dSortSet_u, ↓dSetK_u, ↓dDisp_u, ↓dVar_m, ↓dTru_m, ↓dAnd_m, ↓dOr_m, ↓dNot_m, ↓dChain_m, ↓dIter_m, ↓dRange1_m, ↓dPart_m, ↓gtCons_m, ↓gtNil_m, ↓gtTup_m, ↓sPar_m, ↓oAdd_m, ↓oInt_m, ↓oNeg_m, ↓oOrd_m, ↓oIx_m, ↓oLen_m, ↓oToInt_m, ↓oToTup_m, ↓oToList_m, ↓oGet1_m, ↓oUpper_m, ↓oToStr_m, ↓oPop_m, ↓oAppend_m, ↓oPut_m, ↓oSIndex_m, ↓atI_m, ↓getK_m, ↓oSl, ↓oRev, ↓oIsi_T, ↓oMax2I, ↓oMulI, ↓eqI, ↓eqS, ↓eqL, ↓eqT, ↓neI, ↓neS, ↓neL, ↓neT, vw_non, vw_bl, vw_int, vw_str, vw_tup, vw_lst, vw_dic, vw_raw, vw_obj, truD, keyD, itemsOf, mthTy, lenD, seqD, List.map_cons, List.map_nil, List.cons_append, List.nil_append, List.getElem?_cons_zero, List.getElem?_cons_succ, List.getElem?_nil, List.set_cons_zero, List.set_cons_succ, List.length_cons, List.length_nil, ↓reduceIte, Bool.not_true, Bool.not_false, Bool.false_eq_true, true_and, and_true, List.replicate_zero, List.replicate_succ, List.append_nil, ↓sp1_m, ↓spRow_m, ↓spRis_m, ↓spPl_m, ↓spPg_m, ↓spDraw_m, ↓spDrw_m, ↓yes_m, ↓spBetween_m, ↓spNeed_m, ↓in2, ↓oMulT_m, ↓oDPop_m, ↓oRepr_m]
    refine ⟨t, m, σ, k, rw, rfl, ⟨hT15, hm, ⟨by omega, by omega⟩, hrw⟩, fun M16 hT16 hF16 => ?_⟩
    obtain ⟨R16, hD16⟩ := hF16.deck hD15 ht
    refine ⟨_, R16, by omega, hD16, fun bb M17 hb hD17 => ?_⟩
    obtain ⟨bl, rfl⟩ := hb
    have hT17 := hT16.draw ht hD16 hD17
    have rest : ∀ (P : KD), (∀ pg' R' M', PgsR m (stepS m k rw σ) pg' → TbR M' t m (stepS m k rw σ) → Deck (3000 * i + 1000 + 1 + 20 * jj + 8 + 1 + 1 + 1) R' M' → P (.tup pg') M') → spDone M17 [.tup pgj, .int k, rw.D] P := fun P kk =>
      ⟨m, σ, pgj, k, rw, rfl, ⟨hPj, hm, ⟨by omega, by omega⟩, hrw⟩, fun pg' X hP' => kk pg' _ _ hP' hT17.app (hD17.app X)⟩
    cases bl
    all_goals
      simp only [↓sSeq_u, ↓sNext_u, ↓sBreak_u, ↓sCont_u, ↓sDrop_u, ↓sRet_u, ↓sRetN_u, ↓sAsg_u, ↓sPut_u, ↓sFor_u, ↓dC_u, ↓dNil_u, ↓dCons_u, ↓dBlt_u, ↓dOp2_u, ↓dUn_u, ↓dMeth_u, ↓dCall_u, ↓dCallK_u, ↓dNotT_u, ↓dAndT_u, ↓dOrT_u, ↓dIf_u, ↓dTup_u, ↓dLst_u, ↓dLstO_u, ↓dSl_u, ↓dNoPart_u, ↓dRev_u, ↓dYes_u, ↓dDic0_u, ↓dLc_u, ↓dEnum_u, ↓dZip_u, ↓gtName_u, ↓dSortSet_u, ↓dSetK_u, ↓dDisp_u, ↓dVar_m, ↓dTru_m, ↓dAnd_m, ↓dOr_m, ↓dNot_m, ↓dChain_m, ↓dIter_m, ↓dRange1_m, ↓dPart_m, ↓gtCons_m, ↓gtNil_m, ↓gtTup_m, ↓sPar_m, ↓oAdd_m, ↓oInt_m, ↓oNeg_m, ↓oOrd_m, ↓oIx_m, ↓oLen_m, ↓oToInt_m, ↓oToTup_m, ↓oToList_m, ↓oGet1_m, ↓oUpper_m, ↓oToStr_m, ↓oPop_m, ↓oAppend_m, ↓oPut_m, ↓oSIndex_m, ↓atI_m, ↓getK_m, ↓oSl, ↓oRev, ↓oIsi_T, ↓oMax2I, ↓oMulI, ↓eqI, ↓eqS, ↓eqL, ↓eqT, ↓neI, ↓neS, ↓neL, ↓neT, vw_non, vw_bl, vw_int, vw_str, vw_tup, vw_lst, vw_dic, vw_raw, vw_obj, truD, keyD, itemsOf, mthTy, lenD, seqD, List.map_cons, List.map_nil, List.cons_append, List.nil_append, List.getElem?_cons_zero, List.getElem?_cons_succ, List.getElem?_nil, List.set_cons_zero, List.set_cons_succ, List.length_cons, List.length_nil, ↓reduceIte, Bool.not_true, Bool.not_false, Bool.false_eq_true, true_and, and_true, List.replicate_zero, List.replicate_succ, List.append_nil, ↓sp1_m, ↓spRow_m, ↓spRis_m, ↓spPl_m, ↓spPg_m, ↓spDraw_m, ↓spDrw_m, ↓yes_m, ↓spBetween_m, ↓spNeed_m, ↓in2, ↓oMulT_m, ↓oDPop_m, ↓oRepr_m, pick21]
      refine rest _ fun pg' R18 M18 hP18 hT18 hD18 => ?_
      rw [sIf_u]
      simp only [↓sSeq_u, ↓sNext_u, ↓sBreak_u, ↓sCont_u, ↓sDrop_u, ↓sRet_u, ↓sRetN_u, ↓sAsg_u, ↓sPut_u, ↓sFor_u, ↓dC_u, ↓dNil_u, ↓dCons_u, ↓dBlt_u, ↓dOp2_u, ↓dUn_u, ↓dMeth_u, ↓dCall_u, ↓dCallK_u, ↓dNotT_u, ↓dAndT_u, ↓dOrT_u, ↓dIf_u, ↓dTup_u, ↓dLst_u, ↓dLstO_u, ↓dSl_u, ↓dNoPart_u, ↓dRev_u, ↓dYes_u, ↓dDic0_u, ↓dLc_u, ↓dEnum_u, ↓dZip_u, ↓gtName_u, ↓dSortSet_u, ↓dSetK_u, ↓dDisp_u, ↓dVar_m, ↓dTru_m, ↓dAnd_m, ↓dOr_m, ↓dNot_m, ↓dChain_m, ↓dIter_m, ↓dRange1_m, ↓dPart_m, ↓gtCons_m, ↓gtNil_m, ↓gtTup_m, ↓sPar_m, ↓oAdd_m, ↓oInt_m, ↓oNeg_m, ↓oOrd_m, ↓oIx_m, ↓oLen_m, ↓oToInt_m, ↓oToTup_m, ↓oToList_m, ↓oGet1_m, ↓oUpper_m, ↓oToStr_m, ↓oPop_m, ↓oAppend_m, ↓oPut_m, ↓oSIndex_m, ↓atI_m, ↓getK_m, ↓oSl, ↓oRev, ↓oIsi_T, ↓oMax2I, ↓oMulI, ↓eqI, ↓eqS, ↓eqL, ↓eqT, ↓neI, ↓neS, ↓neL, ↓neT, vw_non, vw_bl, vw_int, vw_str, vw_tup, vw_lst, vw_dic, vw_raw, vw_obj, truD, keyD, itemsOf, mthTy, lenD, seqD, List.map_cons, List.map_nil, List.cons_append, List.nil_append, List.getElem?_cons_zero, List.getElem?_cons_succ, List.getElem?_nil, List.set_cons_zero, List.set_cons_succ, List.length_cons, List.length_nil, ↓reduceIte, Bool.not_true, Bool.not_false, Bool.false_eq_true, true_and, and_true, List.replicate_zero, List.replicate_succ, List.append_nil, ↓sp1_m, ↓spRow_m, ↓spRis_m, ↓spPl_m, ↓spPg_m, ↓spDraw_m, ↓spDrw_m, ↓yes_m, ↓spBetween_m, ↓spNeed_m, ↓in2, ↓oMulT_m, ↓oDPop_m, ↓oRepr_m]
      have s18 := sm_pgs hP18 hm.2
      refine ⟨rep1' s18, ⟨t, m, _, rfl, ⟨hT18, hm.1, hm.2⟩, fun pgs2 hP19 => ?_⟩⟩
      have e9 := hP19.uniq hP18
      subst e9
      simp only [↓sSeq_u, ↓sNext_u, ↓sBreak_u, ↓sCont_u, ↓sDrop_u, ↓sRet_u, ↓sRetN_u, ↓sAsg_u, ↓sPut_u, ↓sFor_u, ↓dC_u, ↓dNil_u, ↓dCons_u, ↓dBlt_u, ↓dOp2_u, ↓dUn_u, ↓dMeth_u, ↓dCall_u, ↓dCallK_u, ↓dNotT_u, ↓dAndT_u, ↓dOrT_u, ↓dIf_u, ↓dTup_u, ↓dLst_u, ↓dLstO_u, ↓dSl_u, ↓dNoPart_u, ↓dRev_u, ↓dYes_u, ↓dDic0_u, ↓dLc_u, ↓dEnum_u, ↓dZip_u, ↓gtName_u, ↓dSortSet_u, ↓dSetK_u, ↓dDisp_u, ↓dVar_m, ↓dTru_m, ↓dAnd_m, ↓dOr_m, ↓dNot_m, ↓dChain_m, ↓dIter_m, ↓dRange1_m, ↓dPart_m, ↓gtCons_m, ↓gtNil_m, ↓gtTup_m, ↓sPar_m, ↓oAdd_m, ↓oInt_m, ↓oNeg_m, ↓oOrd_m, ↓oIx_m, ↓oLen_m, ↓oToInt_m, ↓oToTup_m, ↓oToList_m, ↓oGet1_m, ↓oUpper_m, ↓oToStr_m, ↓oPop_m, ↓oAppend_m, ↓oPut_m, ↓oSIndex_m, ↓atI_m, ↓getK_m, ↓oSl, ↓oRev, ↓oIsi_T, ↓oMax2I, ↓oMulI, ↓eqI, ↓eqS, ↓eqL, ↓eqT, ↓neI, ↓neS, ↓neL, ↓neT, vw_non, vw_bl, vw_int, vw_str, vw_tup, vw_lst, vw_dic, vw_raw, vw_obj, truD, keyD, itemsOf, mthTy, lenD, seqD, List.map_cons, List.map_nil, List.cons_append, List.nil_append, List.getElem?_cons_zero, List.getElem?_cons_succ, List.getElem?_nil, List.set_cons_zero, List.set_cons_succ, List.length_cons, List.length_nil, ↓reduceIte, Bool.not_true, Bool.not_false, Bool.false_eq_true, true_and, and_true, List.replicate_zero, List.replicate_succ, List.append_nil, ↓sp1_m, ↓spRow_m, ↓spRis_m, ↓spPl_m, ↓spPg_m, ↓spDraw_m, ↓spDrw_m, ↓yes_m, ↓spBetween_m, ↓spNeed_m, ↓in2, ↓oMulT_m, ↓oDPop_m, ↓oRepr_m]
      refine ⟨rep1' s18, ?_⟩
      simp only [decide_true, ↓sSeq_u, ↓sNext_u, ↓sBreak_u, ↓sCont_u, ↓sDrop_u, ↓sRet_u, ↓sRetN_u, ↓sAsg_u, ↓sPut_u, ↓sFor_u, ↓dC_u, ↓dNil_u, ↓dCons_u, ↓dBlt_u, ↓dOp2_u, ↓dUn_u, ↓dMeth_u, ↓dCall_u, ↓dCallK_u, ↓dNotT_u, ↓dAndT_u, ↓dOrT_u, ↓dIf_u, ↓dTup_u, ↓dLst_u, ↓dLstO_u, ↓dSl_u, ↓dNoPart_u, ↓dRev_u, ↓dYes_u, ↓dDic0_u, ↓dLc_u, ↓dEnum_u, ↓dZip_u, ↓gtName_u, ↓dSortSet_u, ↓dSetK_u, ↓dDisp_u, ↓dVar_m, ↓dTru_m, ↓dAnd_m, ↓dOr_m, ↓dNot_m, ↓dChain_m, ↓dIter_m, ↓dRange1_m, ↓dPart_m, ↓gtCons_m, ↓gtNil_m, ↓gtTup_m, ↓sPar_m, ↓oAdd_m, ↓oInt_m, ↓oNeg_m, ↓oOrd_m, ↓oIx_m, ↓oLen_m, ↓oToInt_m, ↓oToTup_m, ↓oToList_m, ↓oGet1_m, ↓oUpper_m, ↓oToStr_m, ↓oPop_m, ↓oAppend_m, ↓oPut_m, ↓oSIndex_m, ↓atI_m, ↓getK_m, ↓oSl, ↓oRev, ↓oIsi_T, ↓oMax2I, ↓oMulI, ↓eqI, ↓eqS, ↓eqL, ↓eqT, ↓neI, ↓neS, ↓neL, ↓neT, vw_non, vw_bl, vw_int, vw_str, vw_tup, vw_lst, vw_dic, vw_raw, vw_obj, truD, keyD, itemsOf, mthTy, lenD, seqD, List.map_cons, List.map_nil, List.cons_append, List.nil_append, List.getElem?_cons_zero, List.getElem?_cons_succ, List.getElem?_nil, List.set_cons_zero, List.set_cons_succ, List.length_cons, List.length_nil, ↓reduceIte, Bool.not_true, Bool.not_false, Bool.false_eq_true, true_and, and_true, List.replicate_zero, List.replicate_succ, List.append_nil, ↓sp1_m, ↓spRow_m, ↓spRis_m, ↓spPl_m, ↓spPg_m, ↓spDraw_m, ↓spDrw_m, ↓yes_m, ↓spBetween_m, ↓spNeed_m, ↓in2, ↓oMulT_m, ↓oDPop_m, ↓oRepr_m]
      exact hN2 _ _ ⟨_, _, _, _, _, _, _, _, _, _, R18, rfl, hP18, hT18, hD18.mono (by omega)⟩
  · rintro env M12 ⟨a, b, c, d, e, f, g, h, σ, pgj, R12, rfl, hPj, hTj, hDj⟩
    have h5 : (seqI 0 (Int.toNat 5)).length = 5 := by simp [seqI]
    rw [h5] at hDj
    refine ⟨trivial, ?_⟩
    simp only [↓sSeq_u, ↓sNext_u, ↓sBreak_u, ↓sCont_u, ↓sDrop_u, ↓sRet_u, ↓sRetN_u, ↓sAsg_u, ↓sPut_u, ↓sFor_u, ↓dC_u, ↓dNil_u, ↓dCons_u, ↓dBlt_u, ↓dOp2_u, ↓dUn_u, ↓dMeth_u, ↓dCall_u, ↓dCallK_u, ↓dNotT_u, ↓dAndT_u, ↓dOrT_u, ↓dIf_u, ↓dTup_u, ↓dLst_u, ↓dLstO_u, ↓dSl_u, ↓dNoPart_u, ↓dRev_u, ↓dYes_u, ↓dDic0_u, ↓dLc_u, ↓dEnum_u, ↓dZip_u, ↓gtName_u, ↓dSortSet_u, ↓dSetK_u, ↓dDisp_u, ↓dVar_m, ↓dTru_m, ↓dAnd_m, ↓dOr_m, ↓dNot_m, ↓dChain_m, ↓dIter_m, ↓dRange1_m, ↓dPart_m, ↓gtCons_m, ↓gtNil_m, ↓gtTup_m, ↓sPar_m, ↓oAdd_m, ↓oInt_m, ↓oNeg_m, ↓oOrd_m, ↓oIx_m, ↓oLen_m, ↓oToInt_m, ↓oToTup_m, ↓oToList_m, ↓oGet1_m, ↓oUpper_m, ↓oToStr_m, ↓oPop_m, ↓oAppend_m, ↓oPut_m, ↓oSIndex_m, ↓atI_m, ↓getK_m, ↓oSl, ↓oRev, ↓oIsi_T, ↓oMax2I, ↓oMulI, ↓eqI, ↓eqS, ↓eqL, ↓eqT, ↓neI, ↓neS, ↓neL, ↓neT, vw_non, vw_bl, vw_int, vw_str, vw_tup, vw_lst, vw_dic, vw_raw, vw_obj, truD, keyD, itemsOf, mthTy, lenD, seqD, List.map_cons, List.map_nil, List.cons_append, List.nil_append, List.getElem?_cons_zero, List.getElem?_cons_succ, List.getElem?_nil, List.set_cons_zero, List.set_cons_succ, List.length_cons, List.length_nil, ↓reduceIte, Bool.not_true, Bool.not_false, Bool.false_eq_true, true_and, and_true, List.replicate_zero, List.replicate_succ, List.append_nil, ↓sp1_m, ↓spRow_m, ↓spRis_m, ↓spPl_m, ↓spPg_m, ↓spDraw_m, ↓spDrw_m, ↓yes_m, ↓spBetween_m, ↓spNeed_m, ↓in2, ↓oMulT_m, ↓oDPop_m, ↓oRepr_m]
    refine ⟨8, _, R12, rfl, by decide, by omega, hDj, fun x2 M13 hx2 hD13 => ?_⟩
    obtain ⟨rs2, rfl, hrl2, hro2⟩ := hx2
    have hT13 := hTj.draw ht hDj hD13
    simp only [↓sSeq_u, ↓sNext_u, ↓sBreak_u, ↓sCont_u, ↓sDrop_u, ↓sRet_u, ↓sRetN_u, ↓sAsg_u, ↓sPut_u, ↓sFor_u, ↓dC_u, ↓dNil_u, ↓dCons_u, ↓dBlt_u, ↓dOp2_u, ↓dUn_u, ↓dMeth_u, ↓dCall_u, ↓dCallK_u, ↓dNotT_u, ↓dAndT_u, ↓dOrT_u, ↓dIf_u, ↓dTup_u, ↓dLst_u, ↓dLstO_u, ↓dSl_u, ↓dNoPart_u, ↓dRev_u, ↓dYes_u, ↓dDic0_u, ↓dLc_u, ↓dEnum_u, ↓dZip_u, ↓gtName_u, ↓dSortSet_u, ↓dSetK_u, ↓dDisp_u, ↓dVar_m, ↓dTru_m, ↓dAnd_m, ↓dOr_m, ↓dNot_m, ↓dChain_m, ↓dIter_m, ↓dRange1_m, ↓dPart_m, ↓gtCons_m, ↓gtNil_m, ↓gtTup_m, ↓sPar_m, ↓oAdd_m, ↓oInt_m, ↓oNeg_m, ↓oOrd_m, ↓oIx_m, ↓oLen_m, ↓oToInt_m, ↓oToTup_m, ↓oToList_m, ↓oGet1_m, ↓oUpper_m, ↓oToStr_m, ↓oPop_m, ↓oAppend_m, ↓oPut_m, ↓oSIndex_m, ↓atI_m, ↓getK_m, ↓oSl, ↓oRev, ↓oIsi_T, ↓oMax2I, ↓oMulI, ↓eqI, ↓eqS, ↓eqL, ↓eqT, ↓neI, ↓neS, ↓neL, ↓neT, vw_non, vw_bl, vw_int, vw_str, vw_tup, vw_lst, vw_dic, vw_raw, vw_obj, truD, keyD, itemsOf, mthTy, lenD, seqD, List.map_cons, List.map_nil, List.cons_append, List.nil_append, List.getElem?_cons_zero, List.getElem?_cons_succ, List.getElem?_nil, List.set_cons_zero, List.set_cons_succ, List.length_cons, List.length_nil, ↓reduceIte, Bool.not_true, Bool.not_false, Bool.false_eq_true, true_and, and_true, List.replicate_zero, List.replicate_succ, List.append_nil, ↓sp1_m, ↓spRow_m, ↓spRis_m, ↓spPl_m, ↓spPg_m, ↓spDraw_m, ↓spDrw_m, ↓yes_m, ↓spBetween_m, ↓spNeed_m, ↓in2, ↓oMulT_m, ↓oDPop_m, ↓oRepr_m]
    rw [sIf_u]
    simp only [↓sSeq_u, ↓sNext_u, ↓sBreak_u, ↓sCont_u, ↓sDrop_u, ↓sRet_u, ↓sRetN_u, ↓sAsg_u, ↓sPut_u, ↓sFor_u, ↓dC_u, ↓dNil_u, ↓dCons_u, ↓dBlt_u, ↓dOp2_u, ↓dUn_u, ↓dMeth_u, ↓dCall_u, ↓dCallK_u, ↓dNotT_u, ↓dAndT_u, ↓dOrT_u, ↓dIf_u, ↓dTup_u, ↓dLst_u, ↓dLstO_u, ↓dSl_u, ↓dNoPart_u, ↓dRev_u, ↓dYes_u, ↓dDic0_u, ↓dLc_u, ↓dEnum_u, ↓dZip_u, ↓gtName_u, ↓dSortSet_u, ↓dSetK_u, ↓dDisp_u, ↓dVar_m, ↓dTru_m, ↓dAnd_m, ↓dOr_m, ↓dNot_m, ↓dChain_m, ↓dIter_m, ↓dRange1_m, ↓dPart_m, ↓gtCons_m, ↓gtNil_m, ↓gtTup_m, ↓sPar_m, ↓oAdd_m, ↓oInt_m, ↓oNeg_m, ↓oOrd_m, ↓oIx_m, ↓oLen_m, ↓oToInt_m, ↓oToTup_m, ↓oToList_m, ↓oGet1_m, ↓oUpper_m, ↓oToStr_m, ↓oPop_m, ↓oAppend_m, ↓oPut_m, ↓oSIndex_m, ↓atI_m, ↓getK_m, ↓oSl, ↓oRev, ↓oIsi_T, ↓oMax2I, ↓oMulI, ↓eqI, ↓eqS, ↓eqL, ↓eqT, ↓neI, ↓neS, ↓neL, ↓neT, vw_non, vw_bl, vw_int, vw_str, vw_tup, vw_lst, vw_dic, vw_raw, vw_obj, truD, keyD, itemsOf, mthTy, lenD, seqD, List.map_cons, List.map_nil, List.cons_append, List.nil_append, List.getElem?_cons_zero, List.getElem?_cons_succ, List.getElem?_nil, List.set_cons_zero, List.set_cons_succ, List.length_cons, List.length_nil, ↓reduceIte, Bool.not_true, Bool.not_false, Bool.false_eq_true, true_and, and_true, List.replicate_zero, List.replicate_succ, List.append_nil, ↓sp1_m, ↓spRow_m, ↓spRis_m, ↓spPl_m, ↓spPg_m, ↓spDraw_m, ↓spDrw_m, ↓yes_m, ↓spBetween_m, ↓spNeed_m, ↓in2, ↓oMulT_m, ↓oDPop_m, ↓oRepr_m]
    refine ⟨m, σ, pgj, rs2, rfl, ⟨hPj, hm, by omega, hro2⟩, fun pgf X hPf => ?_⟩
    have sF := sm_pgs hPf hm.2
    simp only [↓sSeq_u, ↓sNext_u, ↓sBreak_u, ↓sCont_u, ↓sDrop_u, ↓sRet_u, ↓sRetN_u, ↓sAsg_u, ↓sPut_u, ↓sFor_u, ↓dC_u, ↓dNil_u, ↓dCons_u, ↓dBlt_u, ↓dOp2_u, ↓dUn_u, ↓dMeth_u, ↓dCall_u, ↓dCallK_u, ↓dNotT_u, ↓dAndT_u, ↓dOrT_u, ↓dIf_u, ↓dTup_u, ↓dLst_u, ↓dLstO_u, ↓dSl_u, ↓dNoPart_u, ↓dRev_u, ↓dYes_u, ↓dDic0_u, ↓dLc_u, ↓dEnum_u, ↓dZip_u, ↓gtName_u, ↓dSortSet_u, ↓dSetK_u, ↓dDisp_u, ↓dVar_m, ↓dTru_m, ↓dAnd_m, ↓dOr_m, ↓dNot_m, ↓dChain_m, ↓dIter_m, ↓dRange1_m, ↓dPart_m, ↓gtCons_m, ↓gtNil_m, ↓gtTup_m, ↓sPar_m, ↓oAdd_m, ↓oInt_m, ↓oNeg_m, ↓oOrd_m, ↓oIx_m, ↓oLen_m, ↓oToInt_m, ↓oToTup_m, ↓oToList_m, ↓oGet1_m, ↓oUpper_m, ↓oToStr_m, ↓oPop_m, ↓oAppend_m, ↓oPut_m, ↓oSIndex_m, ↓atI_m, ↓getK_m, ↓oSl, ↓oRev, ↓oIsi_T, ↓oMax2I, ↓oMulI, ↓eqI, ↓eqS, ↓eqL, ↓eqT, ↓neI, ↓neS, ↓neL, ↓neT, vw_non, vw_bl, vw_int, vw_str, vw_tup, vw_lst, vw_dic, vw_raw, vw_obj, truD, keyD, itemsOf, mthTy, lenD, seqD, List.map_cons, List.map_nil, List.cons_append, List.nil_append, List.getElem?_cons_zero, List.getElem?_cons_succ, List.getElem?_nil, List.set_cons_zero, List.set_cons_succ, List.length_cons, List.length_nil, ↓reduceIte, Bool.not_true, Bool.not_false, Bool.false_eq_true, true_and, and_true, List.replicate_zero, List.replicate_succ, List.append_nil, ↓sp1_m, ↓spRow_m, ↓spRis_m, ↓spPl_m, ↓spPg_m, ↓spDraw_m, ↓spDrw_m, ↓yes_m, ↓spBetween_m, ↓spNeed_m, ↓in2, ↓oMulT_m, ↓oDPop_m, ↓oRepr_m]
    refine ⟨rep1' sF, ⟨t, m, σ, rs2, _, rfl, .inr rfl, ⟨hT13.app, hm, by omega, hro2⟩, fun M15 hT15 hF15 => ⟨t, m, _, rfl, ⟨hT15, hm.1, hm.2⟩, fun pg6 hP6 => ?_⟩⟩⟩
    have e6 := hP6.uniq hPf
    subst e6
    obtain ⟨R15, hD15⟩ := hF15.deck (hD13.app X) ht
    simp only [↓sSeq_u, ↓sNext_u, ↓sBreak_u, ↓sCont_u, ↓sDrop_u, ↓sRet_u, ↓sRetN_u, ↓sAsg_u, ↓sPut_u, ↓sFor_u, ↓dC_u, ↓dNil_u, ↓dCons_u, ↓dBlt_u, ↓dOp2_u, ↓dUn_u, ↓dMeth_u, ↓dCall_u, ↓dCallK_u, ↓dNotT_u, ↓dAndT_u, ↓dOrT_u, ↓dIf_u, ↓dTup_u, ↓dLst_u, ↓dLstO_u, ↓dSl_u, ↓dNoPart_u, ↓dRev_u, ↓dYes_u, ↓dDic0_u, ↓dLc_u, ↓dEnum_u, ↓dZip_u, ↓gtName_u, ↓dSortSet_u, ↓dSetK_u, ↓dDisp_u, ↓dVar_m, ↓dTru_m, ↓dAnd_m, ↓dOr_m, ↓dNot_m, ↓dChain_m, ↓dIter_m, ↓dRange1_m, ↓dPart_m, ↓gtCons_m, ↓gtNil_m, ↓gtTup_m, ↓sPar_m, ↓oAdd_m, ↓oInt_m, ↓oNeg_m, ↓oOrd_m, ↓oIx_m, ↓oLen_m, ↓oToInt_m, ↓oToTup_m, ↓oToList_m, ↓oGet1_m, ↓oUpper_m, ↓oToStr_m, ↓oPop_m, ↓oAppend_m, ↓oPut_m, ↓oSIndex_m, ↓atI_m, ↓getK_m, ↓oSl, ↓oRev, ↓oIsi_T, ↓oMax2I, ↓oMulI, ↓eqI, ↓eqS, ↓eqL, ↓eqT, ↓neI, ↓neS, ↓neL, ↓neT, vw_non, vw_bl, vw_int, vw_str, vw_tup, vw_lst, vw_dic, vw_raw, vw_obj, truD, keyD, itemsOf, mthTy, lenD, seqD, List.map_cons, List.map_nil, List.cons_append, List.nil_append, List.getElem?_cons_zero, List.getElem?_cons_succ, List.getElem?_nil, List.set_cons_zero, List.set_cons_succ, List.length_cons, List.length_nil, ↓reduceIte, Bool.not_true, Bool.not_false, Bool.false_eq_true, true_and, and_true, List.replicate_zero, List.replicate_succ, List.append_nil, ↓sp1_m, ↓spRow_m, ↓spRis_m, ↓spPl_m, ↓spPg_m, ↓spDraw_m, ↓spDrw_m, ↓yes_m, ↓spBetween_m, ↓spNeed_m, ↓in2, ↓oMulT_m, ↓oDPop_m, ↓oRepr_m]
    refine ⟨rep1' sF, ?_⟩
    simp only [decide_true, ↓sSeq_u, ↓sNext_u, ↓sBreak_u, ↓sCont_u, ↓sDrop_u, ↓sRet_u, ↓sRetN_u, ↓sAsg_u, ↓sPut_u, ↓sFor_u, ↓dC_u, ↓dNil_u, ↓dCons_u, ↓dBlt_u, ↓dOp2_u, ↓dUn_u, ↓dMeth_u, ↓dCall_u, ↓dCallK_u, ↓dNotT_u, ↓dAndT_u, ↓dOrT_u, ↓dIf_u, ↓dTup_u, ↓dLst_u, ↓dLstO_u, ↓dSl_u, ↓dNoPart_u, ↓dRev_u, ↓dYes_u, ↓dDic0_u, ↓dLc_u, ↓dEnum_u, ↓dZip_u, ↓gtName_u, ↓dSortSet_u, ↓dSetK_u, ↓dDisp_u, ↓dVar_m, ↓dTru_m, ↓dAnd_m, ↓dOr_m, ↓dNot_m, ↓dChain_m, ↓dIter_m, ↓dRange1_m, ↓dPart_m, ↓gtCons_m, ↓gtNil_m, ↓gtTup_m, ↓sPar_m, ↓oAdd_m, ↓oInt_m, ↓oNeg_m, ↓oOrd_m, ↓oIx_m, ↓oLen_m, ↓oToInt_m, ↓oToTup_m, ↓oToList_m, ↓oGet1_m, ↓oUpper_m, ↓oToStr_m, ↓oPop_m, ↓oAppend_m, ↓oPut_m, ↓oSIndex_m, ↓atI_m, ↓getK_m, ↓oSl, ↓oRev, ↓oIsi_T, ↓oMax2I, ↓oMulI, ↓eqI, ↓eqS, ↓eqL, ↓eqT, ↓neI, ↓neS, ↓neL, ↓neT, vw_non, vw_bl, vw_int, vw_str, vw_tup, vw_lst, vw_dic, vw_raw, vw_obj, truD, keyD, itemsOf, mthTy, lenD, seqD, List.map_cons, List.map_nil, List.cons_append, List.nil_append, List.getElem?_cons_zero, List.getElem?_cons_succ, List.getElem?_nil, List.set_cons_zero, List.set_cons_succ, List.length_cons, List.length_nil, ↓reduceIte, Bool.not_true, Bool.not_false, Bool.false_eq_true, true_and, and_true, List.replicate_zero, List.replicate_succ, List.append_nil, ↓sp1_m, ↓spRow_m, ↓spRis_m, ↓spPl_m, ↓spPg_m, ↓spDraw_m, ↓spDrw_m, ↓yes_m, ↓spBetween_m, ↓spNeed_m, ↓in2, ↓oMulT_m, ↓oDPop_m, ↓oRepr_m]
    exact hN _ _ ⟨_, _, _, _, _, _, _, _, _, _, _, _, _, R15, rfl, hD15.mono (by omega)⟩
end L3.K55
namespace L3.K55
open PySem PySem.Spec PyProof.Rows L2
section
variable {P : Program} {w : PySem.World} {K : PySem.W.Frag} {mg : Str → Option Value} {base : Heap}
theorem rd_all_done {k : Nat} (T : Tx K mg) {sp_done_all : DSp} (G_done_all : FS P w K mg base k "done_all" s_done_all ["pages", "rows"] sp_done_all) {sp_need_rows : DSp} (G_need_rows : FS P w K mg base k "need_rows" s_need_rows ["rows"] sp_need_rows) {sp_need_pages : DSp} (G_need_pages : FS P w K mg base k "need_pages" s_need_pages ["pages"] sp_need_pages) (cdv : Value) (A : Around) (outer : List Env) (s : Shared) (H : Hp) (E : XK) {f : Addr} (c : Ctx) (hr : Room k (A.deeper (envOfC "all_done" (defScope s_all_done) s.heap.objs.size f cdv)))
    (r : Rm (cxOf CX0 P w K mg base N_all_done "all_done" (defScope s_all_done) f cdv A outer s H E).nox) : PDSs (cxOf CX0 P w K mg base N_all_done "all_done" (defScope s_all_done) f cdv A outer s H E).nox c (defBody s_all_done) (td_all_done sp_done_all sp_need_rows sp_need_pages) :=
 (pdss_cons (q_expr (q_call (hj := Nat.le_refl _) G_need_pages hr r (q_cons (q_var 0) pda_nil)))
 (pdss_cons (q_expr (q_call (hj := Nat.le_refl _) G_need_rows hr r (q_cons (q_var 1) pda_nil)))
 (pdss_cons (pds_ret (q_call (hj := Nat.le_refl _) G_done_all hr r (q_cons (q_var 0) (q_cons (q_var 1) pda_nil))))
 pdss_nil)))
end
end L3.K55
namespace L3.K55
open PySem PySem.Spec PyProof.Rows L2
section
variable {P : Program} {w : PySem.World} {K : PySem.W.Frag} {mg : Str → Option Value} {base : Heap}
theorem rd_all_worths {k : Nat} (T : Tx K mg) (cdv : Value) (A : Around) (outer : List Env) (s : Shared) (H : Hp) (E : XK) {f : Addr} (c : Ctx) (hr : Room k (A.deeper (envOfC "all_worths" (defScope s_all_worths) s.heap.objs.size f cdv)))
    (r : Rm (cxOf CX0 P w K mg base N_all_worths "all_worths" (defScope s_all_worths) f cdv A outer s H E).nox) : PDSs (cxOf CX0 P w K mg base N_all_worths "all_worths" (defScope s_all_worths) f cdv A outer s H E).nox c (defBody s_all_worths) td_all_worths :=
 (pdss_cons (pds_ret (q_T (op_tuple) (q_cons (q_f (op_sorted (o := false) r.calm r.u80) (q_cons (q_lc2 false r [("last", 1), ("worths", 2), ("pair", 3)] [3] (pdi_val (q_var 0)) (fun _ _ _ _ _ _ => (q_gtup r.blk 2 (q_gcons (q_name r.blk 1) (q_gcons (q_name r.blk 2) pdgs_nil)))) (fun _ _ _ _ _ _ => pdts_nil) (fun _ _ _ _ _ _ => (pdi_val (q_var 2))) (fun _ _ _ _ _ _ => (q_name r.blk 3)) (fun _ _ _ _ _ _ => pdts_nil) (fun _ _ _ _ _ _ => (q_var 3))) pda_nil) T.n_sorted) pda_nil) T.n_tuple))
 pdss_nil)
end
end L3.K55
namespace L3.K55
open PySem PySem.Spec PyProof.Rows L2
section
variable {P : Program} {w : PySem.World} {K : PySem.W.Frag} {mg : Str → Option Value} {base : Heap}
theorem rd_are_houses_of_deal {k : Nat} (T : Tx K mg) {sp_is_between : DSp} (G_is_between : FS P w K mg base k "is_between" s_is_between ["thing", "least", "most"] sp_is_between) (cdv : Value) (A : Around) (outer : List Env) (s : Shared) (H : Hp) (E : XK) {f : Addr} (c : Ctx) (hr : Room k (A.deeper (envOfC "are_houses_of_deal" (defScope s_are_houses_of_deal) s.heap.objs.size f cdv)))
    (r : Rm (cxOf CX0 P w K mg base N_are_houses_of_deal "are_houses_of_deal" (defScope s_are_houses_of_deal) f cdv A outer s H E).nox) : PDSs (cxOf CX0 P w K mg base N_are_houses_of_deal "are_houses_of_deal" (defScope s_are_houses_of_deal) f cdv A outer s H E).nox c (defBody s_are_houses_of_deal) (td_are_houses_of_deal sp_is_between) :=
 (pdss_cons (pds_if (pdw_or (pdt_not (q_tru (q_f op_isi (q_cons (q_var 0) (q_cons (q_ty "tuple" T.n_tuple) pda_nil)) T.n_isinstance))) (pdw_one (pdt_not (q_tchain (op_ordD .le r.u64) (op_ordD .le r.u64) pd_int (q_f (op_len) (q_cons (q_var 0) pda_nil) T.n_len) (q_gd T.c_MOST_HOUSES))))).pdt (pdss_cons (pds_ret pd_bl)
 pdss_nil) pdss_nil)
 (pdss_cons (pds_ret (pd_and (q_f (op_all r.calm) (q_cons (q_lc false r [("house", 1)] (pdi_val (q_var 0)) (fun _ _ _ _ _ _ => (q_name r.blk 1)) (fun _ _ _ _ _ _ => pdts_nil) (fun _ _ _ _ _ _ => (q_call (hj := Nat.le_refl _) G_is_between hr r.blk (q_cons (q_var 1) (q_cons pd_int (q_cons (pd_bin op_subD (q_gd T.c_MOST_HOUSES) pd_int) pda_nil)))))) pda_nil) T.n_all) (pd_one (q_cmp (op_eqDD r.u64) (q_lenSet r (q_var 0) T.n_len T.n_set) (q_f (op_len) (q_cons (q_var 0) pda_nil) T.n_len)))))
 pdss_nil))
end
end L3.K55
namespace L3.K55
open PySem PySem.Spec PyProof.Rows L2
section
variable {P : Program} {w : PySem.World} {K : PySem.W.Frag} {mg : Str → Option Value} {base : Heap}
theorem rd_are_pages {k : Nat} (T : Tx K mg) {sp_are_pages_value : DSp} (G_are_pages_value : FS P w K mg base k "are_pages_value" s_are_pages_value ["thing"] sp_are_pages_value) (cdv : Value) (A : Around) (outer : List Env) (s : Shared) (H : Hp) (E : XK) {f : Addr} (c : Ctx) (hr : Room k (A.deeper (envOfC "are_pages" (defScope s_are_pages) s.heap.objs.size f cdv)))
    (r : Rm (cxOf CX0 P w K mg base N_are_pages "are_pages" (defScope s_are_pages) f cdv A outer s H E).nox) : PDSs (cxOf CX0 P w K mg base N_are_pages "are_pages" (defScope s_are_pages) f cdv A outer s H E).nox c (defBody s_are_pages) (td_are_pages sp_are_pages_value) :=
 (pdss_cons (pds_ret (q_call (hj := Nat.le_refl _) G_are_pages_value hr r (q_cons (q_var 0) pda_nil)))
 pdss_nil)
end
end L3.K55
namespace L3.K55
open PySem PySem.Spec PyProof.Rows L2
section
variable {P : Program} {w : PySem.World} {K : PySem.W.Frag} {mg : Str → Option Value} {base : Heap}
theorem rd_are_pages_value {k : Nat} (T : Tx K mg) {sp_is_page : DSp} (G_is_page : FS P w K mg base k "is_page" s_is_page ["thing", "at", "many"] sp_is_page) (cdv : Value) (A : Around) (outer : List Env) (s : Shared) (H : Hp) (E : XK) {f : Addr} (c : Ctx) (hr : Room k (A.deeper (envOfC "are_pages_value" (defScope s_are_pages_value) s.heap.objs.size f cdv)))
    (r : Rm (cxOf CX0 P w K mg base N_are_pages_value "are_pages_value" (defScope s_are_pages_value) f cdv A outer s H E).nox) : PDSs (cxOf CX0 P w K mg base N_are_pages_value "are_pages_value" (defScope s_are_pages_value) f cdv A outer s H E).nox c (defBody s_are_pages_value) (td_are_pages_value sp_is_page) :=
 (pdss_cons (pds_if (pdw_or (pdt_not (q_tru (q_f op_isi (q_cons (q_var 0) (q_cons (q_ty "tuple" T.n_tuple) pda_nil)) T.n_isinstance))) (pdw_one (pdt_not (q_tchain (op_ordD .le r.u64) (op_ordD .le r.u64) pd_int (q_f (op_len) (q_cons (q_var 0) pda_nil) T.n_len) (q_gd T.c_MOST_PAGES))))).pdt (pdss_cons (pds_ret pd_bl)
 pdss_nil) pdss_nil)
 (pdss_cons (pds_ret (q_f (op_all r.calm) (q_cons (q_lc false r [("at", 1), ("page", 2)] (q_enum (q_cons (q_var 0) pda_nil) T.n_enumerate) (fun _ _ _ _ _ _ => (q_gtup r.blk 2 (q_gcons (q_name r.blk 1) (q_gcons (q_name r.blk 2) pdgs_nil)))) (fun _ _ _ _ _ _ => pdts_nil) (fun _ _ _ _ _ _ => (q_call (hj := Nat.le_refl _) G_is_page hr r.blk (q_cons (q_var 2) (q_cons (q_var 1) (q_cons (q_f (op_len) (q_cons (q_var 0) pda_nil) T.n_len) pda_nil)))))) pda_nil) T.n_all))
 pdss_nil))
end
end L3.K55
namespace L3.K55
open PySem PySem.Spec PyProof.Rows L2
section
variable {P : Program} {w : PySem.World} {K : PySem.W.Frag} {mg : Str → Option Value} {base : Heap}
theorem rd_are_rows_value {k : Nat} (T : Tx K mg) {sp_is_row_value : DSp} (G_is_row_value : FS P w K mg base k "is_row_value" s_is_row_value ["thing"] sp_is_row_value) (cdv : Value) (A : Around) (outer : List Env) (s : Shared) (H : Hp) (E : XK) {f : Addr} (c : Ctx) (hr : Room k (A.deeper (envOfC "are_rows_value" (defScope s_are_rows_value) s.heap.objs.size f cdv)))
    (r : Rm (cxOf CX0 P w K mg base N_are_rows_value "are_rows_value" (defScope s_are_rows_value) f cdv A outer s H E).nox) : PDSs (cxOf CX0 P w K mg base N_are_rows_value "are_rows_value" (defScope s_are_rows_value) f cdv A outer s H E).nox c (defBody s_are_rows_value) (td_are_rows_value sp_is_row_value) :=
 (pdss_cons (pds_ret (pd_and (q_f op_isi (q_cons (q_var 0) (q_cons (q_ty "tuple" T.n_tuple) pda_nil)) T.n_isinstance) (pd_one (q_f (op_all r.calm) (q_cons (q_lc false r [("row", 1)] (pdi_val (q_var 0)) (fun _ _ _ _ _ _ => (q_name r.blk 1)) (fun _ _ _ _ _ _ => pdts_nil) (fun _ _ _ _ _ _ => (q_call (hj := Nat.le_refl _) G_is_row_value hr r.blk (q_cons (q_var 1) pda_nil)))) pda_nil) T.n_all))))
 pdss_nil)
end
end L3.K55
namespace L3.K55
open PySem PySem.Spec PyProof.Rows L2
section
variable {P : Program} {w : PySem.World} {K : PySem.W.Frag} {mg : Str → Option Value} {base : Heap}
theorem rd_done {k : Nat} (T : Tx K mg) {sp_done_one : DSp} (G_done_one : FS P w K mg base k "done_one" s_done_one ["pages", "number", "row"] sp_done_one) {sp_need_row : DSp} (G_need_row : FS P w K mg base k "need_row" s_need_row ["row"] sp_need_row) {sp_is_integer : DSp} (G_is_integer : FS P w K mg base k "is_integer" s_is_integer ["thing"] sp_is_integer) {sp_need_pages : DSp} (G_need_pages : FS P w K mg base k "need_pages" s_need_pages ["pages"] sp_need_pages) (cdv : Value) (A : Around) (outer : List Env) (s : Shared) (H : Hp) (E : XK) {f : Addr} (c : Ctx) (hr : Room k (A.deeper (envOfC "done" (defScope s_done) s.heap.objs.size f cdv)))
    (r : Rm (cxOf CX0 P w K mg base N_done "done" (defScope s_done) f cdv A outer s H E).nox) : PDSs (cxOf CX0 P w K mg base N_done "done" (defScope s_done) f cdv A outer s H E).nox c (defBody s_done) (td_done sp_done_one sp_need_row sp_is_integer sp_need_pages) :=
 (pdss_cons (q_expr (q_call (hj := Nat.le_refl _) G_need_pages hr r (q_cons (q_var 0) pda_nil)))
 (pdss_cons (pds_if (pdw_or (pdt_not (q_tru (q_call (hj := Nat.le_refl _) G_is_integer hr r (q_cons (q_var 1) pda_nil)))) (pdw_one (q_tcmp (op_ordD .lt r.u64) (q_var 1) pd_int))).pdt (pdss_cons pds_never
 pdss_nil) pdss_nil)
 (pdss_cons (q_expr (q_call (hj := Nat.le_refl _) G_need_row hr r (q_cons (q_var 2) pda_nil)))
 (pdss_cons (pds_ret (q_call (hj := Nat.le_refl _) G_done_one hr r (q_cons (q_var 0) (q_cons (q_var 1) (q_cons (q_var 2) pda_nil)))))
 pdss_nil))))
end
end L3.K55
namespace L3.K55
open PySem PySem.Spec PyProof.Rows L2
section
variable {P : Program} {w : PySem.World} {K : PySem.W.Frag} {mg : Str → Option Value} {base : Heap}
theorem rd_done_all {k : Nat} (T : Tx K mg) {sp_done_one : DSp} (G_done_one : FS P w K mg base k "done_one" s_done_one ["pages", "number", "row"] sp_done_one) (cdv : Value) (A : Around) (outer : List Env) (s : Shared) (H : Hp) (E : XK) {f : Addr} (c : Ctx) (hr : Room k (A.deeper (envOfC "done_all" (defScope s_done_all) s.heap.objs.size f cdv)))
    (r : Rm (cxOf CX0 P w K mg base N_done_all "done_all" (defScope s_done_all) f cdv A outer s H E).nox) : PDSs (cxOf CX0 P w K mg base N_done_all "done_all" (defScope s_done_all) f cdv A outer s H E).nox c (defBody s_done_all) (td_done_all sp_done_one) :=
 (pdss_cons (q_for r (q_enum (q_cons (q_var 1) pda_nil) T.n_enumerate) (fun _ => (q_gtup r 2 (q_gcons (q_name r 2) (q_gcons (q_name r 3) pdgs_nil)))) (fun _ => (pdss_cons (q_set r 0 (q_call (hj := Nat.le_refl _) G_done_one hr r (q_cons (q_var 0) (q_cons (pd_bin op_addD (q_var 2) pd_int) (q_cons (q_var 3) pda_nil)))))
 pdss_nil)))
 (pdss_cons (pds_ret (q_var 0))
 pdss_nil))
end
end L3.K55
namespace L3.K55
open PySem PySem.Spec PyProof.Rows L2
section
variable {P : Program} {w : PySem.World} {K : PySem.W.Frag} {mg : Str → Option Value} {base : Heap}
theorem rd_done_one {k : Nat} (T : Tx K mg) {sp_page_number : DSp} (G_page_number : FS P w K mg base k "page_number" s_page_number ["key", "many"] sp_page_number) (cdv : Value) (A : Around) (outer : List Env) (s : Shared) (H : Hp) (E : XK) {f : Addr} (c : Ctx) (hr : Room k (A.deeper (envOfC "done_one" (defScope s_done_one) s.heap.objs.size f cdv)))
    (r : Rm (cxOf CX0 P w K mg base N_done_one "done_one" (defScope s_done_one) f cdv A outer s H E).nox) : PDSs (cxOf CX0 P w K mg base N_done_one "done_one" (defScope s_done_one) f cdv A outer s H E).nox c (defBody s_done_one) (td_done_one sp_page_number) :=
 (pdss_cons (pds_if (q_tcmp (op_notInD r.u80) (q_ix r (q_var 2) pd_int) (pd_tup (q_cons (pd_str (by decide)) (q_cons (pd_str (by decide)) pda_nil)))) (pdss_cons (pds_ret (q_var 0))
 pdss_nil) pdss_nil)
 (pdss_cons (pds_par r.calm r.nd (i := 3) (j := 4) rfl rfl (by decide) rfl rfl (q_cons (q_call (hj := Nat.le_refl _) G_page_number hr r (q_cons (q_ix r (q_var 2) pd_int) (q_cons (q_f (op_len) (q_cons (q_var 0) pda_nil) T.n_len) pda_nil))) (q_cons (q_ix r (q_var 2) (q_neg pd_int)) pda_nil)) rfl rfl)
 (pdss_cons (q_asg (q_ix r (q_var 0) (q_var 3)) (q_gtup r 2 (q_gcons (q_name r 5) (q_gcons (q_name r 6) pdgs_nil))))
 (pdss_cons (pds_if (q_tcmp (op_ordD .ge r.u64) (q_var 5) (q_var 1)) (pdss_cons (pds_ret (q_var 0))
 pdss_nil) pdss_nil)
 (pdss_cons (q_set r 7 (q_T (op_dict (o := true) r.calm) (q_cons (q_var 6) pda_nil) T.n_dict))
 (pdss_cons (q_put r (q_var 7) (q_ix r (q_var 2) pd_int) (q_var 4))
 (pdss_cons (q_set r 8 (pd_tup (q_cons (q_var 1) (q_cons (q_T (op_tuple) (q_cons (q_f (op_sorted (o := false) r.calm r.u80) (q_cons (q_lc false r [("key", 9), ("own", 10)] (q_items (q_var 7)) (fun _ _ _ _ _ _ => (q_gtup r.blk 2 (q_gcons (q_name r.blk 9) (q_gcons (q_name r.blk 10) pdgs_nil)))) (fun _ _ _ _ _ _ => (pdts_one (q_tcmp (op_isNotD) (q_var 10) pd_non))) (fun _ _ _ _ _ _ => (pd_tup (q_cons (q_var 9) (q_cons (q_var 10) pda_nil))))) pda_nil) T.n_sorted) pda_nil) T.n_tuple) pda_nil))))
 (pdss_cons (pds_ret (pd_bin op_addD (pd_bin op_addD (pd_sl (o := false) (q_var 0) pdo_none (pdo_some (q_var 3))) (pd_tup (q_cons (q_var 8) pda_nil))) (pd_sl (o := false) (q_var 0) (pdo_some (pd_bin op_addD (q_var 3) pd_int)) pdo_none)))
 pdss_nil))))))))
end
end L3.K55
namespace L3.K55
open PySem PySem.Spec PyProof.Rows L2
section
variable {P : Program} {w : PySem.World} {K : PySem.W.Frag} {mg : Str → Option Value} {base : Heap}
theorem rd_empty_pages {k : Nat} (T : Tx K mg) {sp_no_pages : DSp} (G_no_pages : FS P w K mg base k "no_pages" s_no_pages ["many"] sp_no_pages) {sp_need_many : DSp} (G_need_many : FS P w K mg base k "need_many" s_need_many ["many"] sp_need_many) (cdv : Value) (A : Around) (outer : List Env) (s : Shared) (H : Hp) (E : XK) {f : Addr} (c : Ctx) (hr : Room k (A.deeper (envOfC "empty_pages" (defScope s_empty_pages) s.heap.objs.size f cdv)))
    (r : Rm (cxOf CX0 P w K mg base N_empty_pages "empty_pages" (defScope s_empty_pages) f cdv A outer s H E).nox) : PDSs (cxOf CX0 P w K mg base N_empty_pages "empty_pages" (defScope s_empty_pages) f cdv A outer s H E).nox c (defBody s_empty_pages) (td_empty_pages sp_no_pages sp_need_many) :=
 (pdss_cons (q_expr (q_call (hj := Nat.le_refl _) G_need_many hr r (q_cons (q_var 0) pda_nil)))
 (pdss_cons (pds_ret (q_call (hj := Nat.le_refl _) G_no_pages hr r (q_cons (q_var 0) pda_nil)))
 pdss_nil))
end
end L3.K55
namespace L3.K55
open PySem PySem.Spec PyProof.Rows L2
section
variable {P : Program} {w : PySem.World} {K : PySem.W.Frag} {mg : Str → Option Value} {base : Heap}
theorem rd_is_between {k : Nat} (T : Tx K mg) {sp_is_integer : DSp} (G_is_integer : FS P w K mg base k "is_integer" s_is_integer ["thing"] sp_is_integer) (cdv : Value) (A : Around) (outer : List Env) (s : Shared) (H : Hp) (E : XK) {f : Addr} (c : Ctx) (hr : Room k (A.deeper (envOfC "is_between" (defScope s_is_between) s.heap.objs.size f cdv)))
    (r : Rm (cxOf CX0 P w K mg base N_is_between "is_between" (defScope s_is_between) f cdv A outer s H E).nox) : PDSs (cxOf CX0 P w K mg base N_is_between "is_between" (defScope s_is_between) f cdv A outer s H E).nox c (defBody s_is_between) (td_is_between sp_is_integer) :=
 (pdss_cons (pds_ret (pd_and (q_call (hj := Nat.le_refl _) G_is_integer hr r (q_cons (q_var 0) pda_nil)) (pd_one (q_chain (op_ordD .le r.u64) (op_ordD .le r.u64) (q_var 1) (q_var 0) (q_var 2)))))
 pdss_nil)
end
end L3.K55
namespace L3.K55
open PySem PySem.Spec PyProof.Rows L2
section
variable {P : Program} {w : PySem.World} {K : PySem.W.Frag} {mg : Str → Option Value} {base : Heap}
theorem rd_is_count {k : Nat} (T : Tx K mg) {sp_is_integer : DSp} (G_is_integer : FS P w K mg base k "is_integer" s_is_integer ["thing"] sp_is_integer) (cdv : Value) (A : Around) (outer : List Env) (s : Shared) (H : Hp) (E : XK) {f : Addr} (c : Ctx) (hr : Room k (A.deeper (envOfC "is_count" (defScope s_is_count) s.heap.objs.size f cdv)))
    (r : Rm (cxOf CX0 P w K mg base N_is_count "is_count" (defScope s_is_count) f cdv A outer s H E).nox) : PDSs (cxOf CX0 P w K mg base N_is_count "is_count" (defScope s_is_count) f cdv A outer s H E).nox c (defBody s_is_count) (td_is_count sp_is_integer) :=
 (pdss_cons (pds_ret (pd_and (q_call (hj := Nat.le_refl _) G_is_integer hr r (q_cons (q_var 0) pda_nil)) (pd_one (q_cmp (op_ordD .ge r.u64) (q_var 0) pd_int))))
 pdss_nil)
end
end L3.K55
namespace L3.K55
open PySem PySem.Spec PyProof.Rows L2
section
variable {P : Program} {w : PySem.World} {K : PySem.W.Frag} {mg : Str → Option Value} {base : Heap}
theorem rd_is_integer {k : Nat} (T : Tx K mg) (cdv : Value) (A : Around) (outer : List Env) (s : Shared) (H : Hp) (E : XK) {f : Addr} (c : Ctx) (hr : Room k (A.deeper (envOfC "is_integer" (defScope s_is_integer) s.heap.objs.size f cdv)))
    (r : Rm (cxOf CX0 P w K mg base N_is_integer "is_integer" (defScope s_is_integer) f cdv A outer s H E).nox) : PDSs (cxOf CX0 P w K mg base N_is_integer "is_integer" (defScope s_is_integer) f cdv A outer s H E).nox c (defBody s_is_integer) td_is_integer :=
 (pdss_cons (pds_ret (pd_and (q_f op_isi (q_cons (q_var 0) (q_cons (q_ty "int" T.n_int) pda_nil)) T.n_isinstance) (pd_one (pd_not (q_f op_isi (q_cons (q_var 0) (q_cons (q_ty "bool" T.n_bool) pda_nil)) T.n_isinstance)))))
 pdss_nil)
end
end L3.K55
namespace L3.K55
open PySem PySem.Spec PyProof.Rows L2
section
variable {P : Program} {w : PySem.World} {K : PySem.W.Frag} {mg : Str → Option Value} {base : Heap}
theorem rd_is_name {k : Nat} (T : Tx K mg) (cdv : Value) (A : Around) (outer : List Env) (s : Shared) (H : Hp) (E : XK) {f : Addr} (c : Ctx) (hr : Room k (A.deeper (envOfC "is_name" (defScope s_is_name) s.heap.objs.size f cdv)))
    (r : Rm (cxOf CX0 P w K mg base N_is_name "is_name" (defScope s_is_name) f cdv A outer s H E).nox) : PDSs (cxOf CX0 P w K mg base N_is_name "is_name" (defScope s_is_name) f cdv A outer s H E).nox c (defBody s_is_name) td_is_name :=
 (pdss_cons (pds_ret (pd_and (q_f op_isi (q_cons (q_var 0) (q_cons (q_ty "str" T.n_str) pda_nil)) T.n_isinstance) (pd_and (q_chain (op_ordD .le r.u64) (op_ordD .le r.u64) pd_int (q_f (op_len) (q_cons (q_var 0) pda_nil) T.n_len) (q_gd T.c_MOST_LETTERS)) (pd_one (q_f (op_all r.calm) (q_cons (q_lc false r [("sign", 1)] (pdi_val (q_var 0)) (fun _ _ _ _ _ _ => (q_name r.blk 1)) (fun _ _ _ _ _ _ => pdts_nil) (fun _ _ _ _ _ _ => (q_cmp (op_inD r.blk.u80) (q_var 1) (q_gd T.c_LETTERS)))) pda_nil) T.n_all)))))
 pdss_nil)
end
end L3.K55
namespace L3.K55
open PySem PySem.Spec PyProof.Rows L2
section
variable {P : Program} {w : PySem.World} {K : PySem.W.Frag} {mg : Str → Option Value} {base : Heap}
theorem rd_is_one_of {k : Nat} (T : Tx K mg) (cdv : Value) (A : Around) (outer : List Env) (s : Shared) (H : Hp) (E : XK) {f : Addr} (c : Ctx) (hr : Room k (A.deeper (envOfC "is_one_of" (defScope s_is_one_of) s.heap.objs.size f cdv)))
    (r : Rm (cxOf CX0 P w K mg base N_is_one_of "is_one_of" (defScope s_is_one_of) f cdv A outer s H E).nox) : PDSs (cxOf CX0 P w K mg base N_is_one_of "is_one_of" (defScope s_is_one_of) f cdv A outer s H E).nox c (defBody s_is_one_of) td_is_one_of :=
 (pdss_cons (pds_ret (pd_and (q_f op_isi (q_cons (q_var 0) (q_cons (q_ty "str" T.n_str) pda_nil)) T.n_isinstance) (pd_one (q_cmp (op_inD r.u80) (q_var 0) (q_var 1)))))
 pdss_nil)
end
end L3.K55
namespace L3.K55
open PySem PySem.Spec PyProof.Rows L2
section
variable {P : Program} {w : PySem.World} {K : PySem.W.Frag} {mg : Str → Option Value} {base : Heap}
theorem rd_is_page {k : Nat} (T : Tx K mg) {sp_is_rising : DSp} (G_is_rising : FS P w K mg base k "is_rising" s_is_rising ["some"] sp_is_rising) {sp_page_number : DSp} (G_page_number : FS P w K mg base k "page_number" s_page_number ["key", "many"] sp_page_number) {sp_is_row : DSp} (G_is_row : FS P w K mg base k "is_row" s_is_row ["thing", "many"] sp_is_row) {sp_is_name : DSp} (G_is_name : FS P w K mg base k "is_name" s_is_name ["thing"] sp_is_name) {sp_is_integer : DSp} (G_is_integer : FS P w K mg base k "is_integer" s_is_integer ["thing"] sp_is_integer) {sp_is_count : DSp} (G_is_count : FS P w K mg base k "is_count" s_is_count ["thing"] sp_is_count) (cdv : Value) (A : Around) (outer : List Env) (s : Shared) (H : Hp) (E : XK) {f : Addr} (c : Ctx) (hr : Room k (A.deeper (envOfC "is_page" (defScope s_is_page) s.heap.objs.size f cdv)))
    (r : Rm (cxOf CX0 P w K mg base N_is_page "is_page" (defScope s_is_page) f cdv A outer s H E).nox) : PDSs (cxOf CX0 P w K mg base N_is_page "is_page" (defScope s_is_page) f cdv A outer s H E).nox c (defBody s_is_page) (td_is_page sp_is_rising sp_page_number sp_is_row sp_is_name sp_is_integer sp_is_count) :=
 (pdss_cons (pds_if (pdw_or (pdt_not (q_tru (q_call (hj := Nat.le_refl _) G_is_row hr r (q_cons (q_var 0) (q_cons pd_int pda_nil))))) (pdw_or (pdt_not (q_tru (q_call (hj := Nat.le_refl _) G_is_count hr r (q_cons (q_ix r (q_var 0) pd_int) pda_nil)))) (pdw_one (pdt_not (q_tru (q_f op_isi (q_cons (q_ix r (q_var 0) pd_int) (q_cons (q_ty "tuple" T.n_tuple) pda_nil)) T.n_isinstance)))))).pdt (pdss_cons (pds_ret pd_bl)
 pdss_nil) pdss_nil)
 (pdss_cons (pds_if (pdt_not (q_tru (q_f (op_all r.calm) (q_cons (q_lc false r [("pair", 4)] (pdi_val (q_ix r (q_var 0) pd_int)) (fun _ _ _ _ _ _ => (q_name r.blk 4)) (fun _ _ _ _ _ _ => pdts_nil) (fun _ _ _ _ _ _ => (pd_and (q_call (hj := Nat.le_refl _) G_is_row hr r.blk (q_cons (q_var 4) (q_cons pd_int pda_nil))) (pd_and (q_call (hj := Nat.le_refl _) G_is_name hr r.blk (q_cons (q_ix r.blk (q_var 4) pd_int) pda_nil)) (pd_one (q_call (hj := Nat.le_refl _) G_is_integer hr r.blk (q_cons (q_ix r.blk (q_var 4) pd_int) pda_nil))))))) pda_nil) T.n_all))) (pdss_cons (pds_ret pd_bl)
 pdss_nil) pdss_nil)
 (pdss_cons (q_setLc false r 3 [("key", 5), ("worth", 6)] (pdi_val (q_ix r (q_var 0) pd_int)) (fun _ _ _ _ _ _ => (q_gtup r.blk 2 (q_gcons (q_name r.blk 5) (q_gcons (q_name r.blk 6) pdgs_nil)))) (fun _ _ _ _ _ _ => pdts_nil) (fun _ _ _ _ _ _ => (q_var 5)))
 (pdss_cons (pds_ret (pd_and (q_call (hj := Nat.le_refl _) G_is_rising hr r (q_cons (q_var 3) pda_nil)) (pd_one (q_f (op_all r.calm) (q_cons (q_lc false r [("key", 5)] (pdi_val (q_var 3)) (fun _ _ _ _ _ _ => (q_name r.blk 5)) (fun _ _ _ _ _ _ => pdts_nil) (fun _ _ _ _ _ _ => (q_cmp (op_eqDD r.blk.u64) (q_call (hj := Nat.le_refl _) G_page_number hr r.blk (q_cons (q_var 5) (q_cons (q_var 2) pda_nil))) (q_var 1)))) pda_nil) T.n_all))))
 pdss_nil))))
end
end L3.K55
namespace L3.K55
open PySem PySem.Spec PyProof.Rows L2
section
variable {P : Program} {w : PySem.World} {K : PySem.W.Frag} {mg : Str → Option Value} {base : Heap}
theorem rd_is_rising {k : Nat} (T : Tx K mg) (cdv : Value) (A : Around) (outer : List Env) (s : Shared) (H : Hp) (E : XK) {f : Addr} (c : Ctx) (hr : Room k (A.deeper (envOfC "is_rising" (defScope s_is_rising) s.heap.objs.size f cdv)))
    (r : Rm (cxOf CX0 P w K mg base N_is_rising "is_rising" (defScope s_is_rising) f cdv A outer s H E).nox) : PDSs (cxOf CX0 P w K mg base N_is_rising "is_rising" (defScope s_is_rising) f cdv A outer s H E).nox c (defBody s_is_rising) td_is_rising :=
 (pdss_cons (pds_ret (q_f (op_all r.calm) (q_cons (q_lc false r [("one", 1), ("other", 2)] (q_zip (q_cons (q_var 0) (q_cons (pd_sl (o := false) (q_var 0) (pdo_some pd_int) pdo_none) pda_nil)) T.n_zip) (fun _ _ _ _ _ _ => (q_gtup r.blk 2 (q_gcons (q_name r.blk 1) (q_gcons (q_name r.blk 2) pdgs_nil)))) (fun _ _ _ _ _ _ => pdts_nil) (fun _ _ _ _ _ _ => (q_cmp (op_ordD .lt r.blk.u64) (q_var 1) (q_var 2)))) pda_nil) T.n_all))
 pdss_nil)
end
end L3.K55
namespace L3.K55
open PySem PySem.Spec PyProof.Rows L2
section
variable {P : Program} {w : PySem.World} {K : PySem.W.Frag} {mg : Str → Option Value} {base : Heap}
theorem rd_is_row {k : Nat} (T : Tx K mg) (cdv : Value) (A : Around) (outer : List Env) (s : Shared) (H : Hp) (E : XK) {f : Addr} (c : Ctx) (hr : Room k (A.deeper (envOfC "is_row" (defScope s_is_row) s.heap.objs.size f cdv)))
    (r : Rm (cxOf CX0 P w K mg base N_is_row "is_row" (defScope s_is_row) f cdv A outer s H E).nox) : PDSs (cxOf CX0 P w K mg base N_is_row "is_row" (defScope s_is_row) f cdv A outer s H E).nox c (defBody s_is_row) td_is_row :=
 (pdss_cons (pds_ret (pd_and (q_f op_isi (q_cons (q_var 0) (q_cons (q_ty "tuple" T.n_tuple) pda_nil)) T.n_isinstance) (pd_one (q_cmp (op_eqDD r.u64) (q_f (op_len) (q_cons (q_var 0) pda_nil) T.n_len) (q_var 1)))))
 pdss_nil)
end
end L3.K55
namespace L3.K55
open PySem PySem.Spec PyProof.Rows L2
section
variable {P : Program} {w : PySem.World} {K : PySem.W.Frag} {mg : Str → Option Value} {base : Heap}
theorem rd_is_row_value {k : Nat} (T : Tx K mg) {sp_is_name : DSp} (G_is_name : FS P w K mg base k "is_name" s_is_name ["thing"] sp_is_name) {sp_is_worth : DSp} (G_is_worth : FS P w K mg base k "is_worth" s_is_worth ["thing"] sp_is_worth) {sp_is_one_of : DSp} (G_is_one_of : FS P w K mg base k "is_one_of" s_is_one_of ["thing", "words"] sp_is_one_of) {sp_are_houses_of_deal : DSp} (G_are_houses_of_deal : FS P w K mg base k "are_houses_of_deal" s_are_houses_of_deal ["thing"] sp_are_houses_of_deal) {sp_is_count : DSp} (G_is_count : FS P w K mg base k "is_count" s_is_count ["thing"] sp_is_count) (cdv : Value) (A : Around) (outer : List Env) (s : Shared) (H : Hp) (E : XK) {f : Addr} (c : Ctx) (hr : Room k (A.deeper (envOfC "is_row_value" (defScope s_is_row_value) s.heap.objs.size f cdv)))
    (r : Rm (cxOf CX0 P w K mg base N_is_row_value "is_row_value" (defScope s_is_row_value) f cdv A outer s H E).nox) : PDSs (cxOf CX0 P w K mg base N_is_row_value "is_row_value" (defScope s_is_row_value) f cdv A outer s H E).nox c (defBody s_is_row_value) (td_is_row_value sp_is_name sp_is_worth sp_is_one_of sp_are_houses_of_deal sp_is_count) :=
 (pdss_cons (pds_if (pdw_or (pdt_not (q_tru (q_f op_isi (q_cons (q_var 0) (q_cons (q_ty "tuple" T.n_tuple) pda_nil)) T.n_isinstance))) (pdw_or (q_tcmp (op_ordD .lt r.u64) (q_f (op_len) (q_cons (q_var 0) pda_nil) T.n_len) pd_int) (pdw_or (pdt_not (q_tru (q_call (hj := Nat.le_refl _) G_is_one_of hr r (q_cons (q_ix r (q_var 0) pd_int) (q_cons (q_gd T.c_HEADS) pda_nil))))) (pdw_one (pdt_not (q_tru (q_call (hj := Nat.le_refl _) G_is_count hr r (q_cons (q_ix r (q_var 0) pd_int) pda_nil)))))))).pdt (pdss_cons (pds_ret pd_bl)
 pdss_nil) pdss_nil)
 (pdss_cons (pds_par r.calm r.nd (i := 1) (j := 2) rfl rfl (by decide) rfl rfl (q_cons (q_ix r (q_var 0) pd_int) (q_cons (pd_sl (o := false) (q_var 0) (pdo_some pd_int) pdo_none) pda_nil)) rfl rfl)
 (pdss_cons (pds_if (q_tcmp (op_eqDD r.u64) (q_var 1) (pd_str (by decide))) (pdss_cons (pds_ret (pd_and (q_cmp (op_eqDD r.u64) (q_f (op_len) (q_cons (q_var 2) pda_nil) T.n_len) pd_int) (pd_and (q_call (hj := Nat.le_refl _) G_is_one_of hr r (q_cons (q_ix r (q_var 2) pd_int) (q_cons (q_gd T.c_ROLES) pda_nil))) (pd_one (q_call (hj := Nat.le_refl _) G_are_houses_of_deal hr r (q_cons (q_ix r (q_var 2) pd_int) pda_nil))))))
 pdss_nil) pdss_nil)
 (pdss_cons (pds_if (q_tcmp (op_eqDD r.u64) (q_var 1) (pd_str (by decide))) (pdss_cons (pds_ret (pd_and (q_cmp (op_eqDD r.u64) (q_f (op_len) (q_cons (q_var 2) pda_nil) T.n_len) pd_int) (pd_one (q_call (hj := Nat.le_refl _) G_is_one_of hr r (q_cons (q_ix r (q_var 2) pd_int) (q_cons (q_gd T.c_ENDS) pda_nil))))))
 pdss_nil) pdss_nil)
 (pdss_cons (q_set r 3 (q_ix r (q_disp (o := false) (pdps_cons (pd_str (by decide)) pd_int (pdps_cons (pd_str (by decide)) pd_int (pdps_cons (pd_str (by decide)) pd_int (pdps_cons (pd_str (by decide)) pd_int pdps_nil))))) (q_var 1)))
 (pdss_cons (pds_ret (pd_and (q_call (hj := Nat.le_refl _) G_is_name hr r (q_cons (q_ix r (q_var 2) pd_int) pda_nil)) (pd_and (q_cmp (op_eqDD r.u64) (q_f (op_len) (q_cons (q_var 2) pda_nil) T.n_len) (pd_bin op_addD (q_var 3) pd_int)) (pd_one (q_f (op_all r.calm) (q_cons (q_lc false r [("worth", 4)] (pdi_val (pd_sl (o := false) (q_var 2) (pdo_some pd_int) pdo_none)) (fun _ _ _ _ _ _ => (q_name r.blk 4)) (fun _ _ _ _ _ _ => pdts_nil) (fun _ _ _ _ _ _ => (q_call (hj := Nat.le_refl _) G_is_worth hr r.blk (q_cons (q_var 4) pda_nil)))) pda_nil) T.n_all)))))
 pdss_nil))))))
end
end L3.K55
namespace L3.K55
open PySem PySem.Spec PyProof.Rows L2
section
variable {P : Program} {w : PySem.World} {K : PySem.W.Frag} {mg : Str → Option Value} {base : Heap}
theorem rd_is_worth {k : Nat} (T : Tx K mg) {sp_is_integer : DSp} (G_is_integer : FS P w K mg base k "is_integer" s_is_integer ["thing"] sp_is_integer) (cdv : Value) (A : Around) (outer : List Env) (s : Shared) (H : Hp) (E : XK) {f : Addr} (c : Ctx) (hr : Room k (A.deeper (envOfC "is_worth" (defScope s_is_worth) s.heap.objs.size f cdv)))
    (r : Rm (cxOf CX0 P w K mg base N_is_worth "is_worth" (defScope s_is_worth) f cdv A outer s H E).nox) : PDSs (cxOf CX0 P w K mg base N_is_worth "is_worth" (defScope s_is_worth) f cdv A outer s H E).nox c (defBody s_is_worth) (td_is_worth sp_is_integer) :=
 (pdss_cons (pds_ret (pd_or (q_cmp (op_isD) (q_var 0) pd_non) (pd_one (q_call (hj := Nat.le_refl _) G_is_integer hr r (q_cons (q_var 0) pda_nil)))))
 pdss_nil)
end
end L3.K55
namespace L3.K55
open PySem PySem.Spec PyProof.Rows L2
section
variable {P : Program} {w : PySem.World} {K : PySem.W.Frag} {mg : Str → Option Value} {base : Heap}
theorem rd_law {k : Nat} (T : Tx K mg) {sp_all_done : DSp} (G_all_done : FS P w K mg base k "all_done" s_all_done ["pages", "rows"] sp_all_done) {sp_law_told_pages : DSp} (G_law_told_pages : FS P w K mg base k "_law_told_pages" s_law_told_pages ["_law_table_here"] sp_law_told_pages) {sp_law_do_all : DSp} (G_law_do_all : FS P w K mg base k "_law_do_all" s_law_do_all ["_law_table_here", "_law_rows_here"] sp_law_do_all) {sp_law_rows : DSp} (G_law_rows : FS P w K mg base k "_law_rows" s_law_rows ["_law_deck_here", "_law_most"] sp_law_rows) {sp_law_by_name : DSp} (G_law_by_name : FS P w K mg base k "_law_by_name" s_law_by_name ["_law_deck_here"] sp_law_by_name) {sp_done : DSp} (G_done : FS P w K mg base k "done" s_done ["pages", "number", "row"] sp_done) {sp_law_do : DSp} (G_law_do : FS P w K mg base k "_law_do" s_law_do ["_law_table_here", "_law_number", "_law_row_here"] sp_law_do) {sp_law_pick : DSp} (G_law_pick : FS P w K mg base k "_law_pick" s_law_pick ["_law_deck_here", "_law_some"] sp_law_pick) {sp_law_draw : DSp} (G_law_draw : FS P w K mg base k "_law_draw" s_law_draw ["_law_deck_here", "_law_many"] sp_law_draw) {sp_law_row : DSp} (G_law_row : FS P w K mg base k "_law_row" s_law_row ["_law_deck_here"] sp_law_row) {sp_law_table : DSp} (G_law_table : FS P w K mg base k "_law_table" s_law_table ["_law_many"] sp_law_table) {sp_worths_on : DSp} (G_worths_on : FS P w K mg base k "worths_on" s_worths_on ["pages"] sp_worths_on) {sp_worths_by : DSp} (G_worths_by : FS P w K mg base k "worths_by" s_worths_by ["rows"] sp_worths_by) {sp_law_worths : DSp} (G_law_worths : FS P w K mg base k "_law_worths" s_law_worths ["_law_rows_here"] sp_law_worths) {sp_are_pages : DSp} (G_are_pages : FS P w K mg base k "are_pages" s_are_pages ["thing"] sp_are_pages) {sp_empty_pages : DSp} (G_empty_pages : FS P w K mg base k "empty_pages" s_empty_pages ["many"] sp_empty_pages) {sp_law_deck : DSp} (G_law_deck : FS P w K mg base k "_law_deck" s_law_deck ["_law_script"] sp_law_deck) (cdv : Value) (A : Around) (outer : List Env) (s : Shared) (H : Hp) (E : XK) {f : Addr} (c : Ctx) (hr : Room k (A.deeper (envOfC "law" (defScope s_law) s.heap.objs.size f cdv)))
    (r : Rm (cxOf CX0 P w K mg base N_law "law" (defScope s_law) f cdv A outer s H E).nox) : PDSs (cxOf CX0 P w K mg base N_law "law" (defScope s_law) f cdv A outer s H E).nox c (defBody s_law) (td_law sp_all_done sp_law_told_pages sp_law_do_all sp_law_rows sp_law_by_name sp_done sp_law_do sp_law_pick sp_law_draw sp_law_row sp_law_table sp_worths_on sp_worths_by sp_law_worths sp_are_pages sp_empty_pages sp_law_deck) :=
 (pdss_cons (q_set r 1 (q_call (hj := Nat.le_refl _) G_law_deck hr r (q_cons (q_var 0) pda_nil)))
 (pdss_cons (q_for r (q_range1 (q_cons pd_int pda_nil) T.n_range) (fun _ => (q_name r 2)) (fun _ => (pdss_cons (pds_par r.calm r.nd (i := 3) (j := 4) rfl rfl (by decide) rfl rfl (q_cons (q_call (hj := Nat.le_refl _) G_law_rows hr r (q_cons (q_var 1) (q_cons pd_int pda_nil))) (q_cons (pd_bin op_addD pd_int (q_call (hj := Nat.le_refl _) G_law_draw hr r (q_cons (q_var 1) (q_cons pd_int pda_nil)))) pda_nil)) rfl rfl)
 (pdss_cons (q_set r 5 (q_call (hj := Nat.le_refl _) G_law_told_pages hr r (q_cons (q_call (hj := Nat.le_refl _) G_law_do_all hr r (q_cons (q_call (hj := Nat.le_refl _) G_law_table hr r (q_cons (q_var 4) pda_nil)) (q_cons (q_var 3) pda_nil))) pda_nil)))
 (pdss_cons (q_set r 6 (q_call (hj := Nat.le_refl _) G_all_done hr r (q_cons (q_call (hj := Nat.le_refl _) G_empty_pages hr r (q_cons (q_var 4) pda_nil)) (q_cons (q_T (op_tuple) (q_cons (q_var 3) pda_nil) T.n_tuple) pda_nil))))
 (pdss_cons (pds_if (pdw_or (q_tcmp (op_neDD r.u64) (q_f (op_repr r.u80 r.hg) (q_cons (pd_tup (q_cons (q_var 6) (q_cons (q_callK0 (hj := Nat.le_refl _) [1, 0] G_all_done hr r kb_all_done_rows_pages (q_kcons (q_T (op_tuple) (q_cons (q_var 3) pda_nil) T.n_tuple) (q_kcons (pd_bin op_mulD (pd_tup (q_cons (pd_tup (q_cons pd_int (q_cons (pd_tup pda_nil) pda_nil))) pda_nil)) (q_var 4)) pdk_nil))) pda_nil))) pda_nil) T.n_repr) (q_f (op_repr r.u80 r.hg) (q_cons (pd_tup (q_cons (q_var 5) (q_cons (q_var 5) pda_nil))) pda_nil) T.n_repr)) (pdw_one (q_tcmp (op_isNotD) (q_call (hj := Nat.le_refl _) G_are_pages hr r (q_cons (q_var 6) pda_nil)) pd_bl))).pdt (pdss_cons (pds_ret pd_bl)
 pdss_nil) pdss_nil)
 (pdss_cons (q_set r 7 (q_call (hj := Nat.le_refl _) G_law_worths hr r (q_cons (q_var 3) pda_nil)))
 (pdss_cons (pds_if (q_tcmp (op_neDD r.u64) (q_f (op_repr r.u80 r.hg) (q_cons (pd_tup (q_cons (q_call (hj := Nat.le_refl _) G_worths_by hr r (q_cons (q_T (op_tuple) (q_cons (q_var 3) pda_nil) T.n_tuple) pda_nil)) (q_cons (q_callK0 (hj := Nat.le_refl _) [0] G_worths_by hr r kb_worths_by_rows (q_kcons (q_T (op_tuple) (q_cons (q_var 3) pda_nil) T.n_tuple) pdk_nil)) (q_cons (q_call (hj := Nat.le_refl _) G_worths_on hr r (q_cons (q_var 6) pda_nil)) pda_nil)))) pda_nil) T.n_repr) (q_f (op_repr r.u80 r.hg) (q_cons (pd_bin op_mulD (pd_tup (q_cons (q_var 7) pda_nil)) pd_int) pda_nil) T.n_repr)) (pdss_cons (pds_ret pd_bl)
 pdss_nil) pdss_nil)
 (pdss_cons (q_set r 8 (q_call (hj := Nat.le_refl _) G_law_do_all hr r (q_cons (q_call (hj := Nat.le_refl _) G_law_table hr r (q_cons (q_var 4) pda_nil)) (q_cons (q_var 3) pda_nil))))
 (pdss_cons (q_set r 9 (q_var 5))
 (pdss_cons (q_for r (q_range1 (q_cons pd_int pda_nil) T.n_range) (fun _ => (q_name r 10)) (fun _ => (pdss_cons (pds_par r.calm r.nd (i := 11) (j := 12) rfl rfl (by decide) rfl rfl (q_cons (q_call (hj := Nat.le_refl _) G_law_row hr r (q_cons (q_var 1) pda_nil)) (q_cons (q_call (hj := Nat.le_refl _) G_law_pick hr r (q_cons (q_var 1) (q_cons (pd_lst (q_cons pd_int (q_cons (q_f (op_len) (q_cons (q_var 3) pda_nil) T.n_len) (q_cons (pd_bin op_addD (q_f (op_len) (q_cons (q_var 3) pda_nil) T.n_len) pd_int) (q_cons (pd_bin op_addD pd_int (q_call (hj := Nat.le_refl _) G_law_draw hr r (q_cons (q_var 1) (q_cons pd_int pda_nil)))) pda_nil))))) pda_nil))) pda_nil)) rfl rfl)
 (pdss_cons (pds_if (q_tcmp (op_ordD .lt r.u64) (q_var 12) pd_int) (pdss_cons pds_continue
 pdss_nil) pdss_nil)
 (pdss_cons (q_expr (q_call (hj := Nat.le_refl _) G_law_do hr r (q_cons (q_var 8) (q_cons (q_var 12) (q_cons (q_var 11) pda_nil)))))
 (pdss_cons (q_set r 13 (pd_ifExp (q_tru (q_call (hj := Nat.le_refl _) G_law_by_name hr r (q_cons (q_var 1) pda_nil))) (q_call (hj := Nat.le_refl _) G_done hr r (q_cons (q_var 9) (q_cons (q_var 12) (q_cons (q_var 11) pda_nil)))) (q_callK0 (hj := Nat.le_refl _) [2, 1, 0] G_done hr r kb_done_row_number_pages (q_kcons (q_var 11) (q_kcons (q_var 12) (q_kcons (q_var 9) pdk_nil))))))
 (pdss_cons (pds_if (q_tcmp (op_neDD r.u64) (q_f (op_repr r.u80 r.hg) (q_cons (q_var 13) pda_nil) T.n_repr) (q_f (op_repr r.u80 r.hg) (q_cons (q_call (hj := Nat.le_refl _) G_law_told_pages hr r (q_cons (q_var 8) pda_nil)) pda_nil) T.n_repr)) (pdss_cons (pds_ret pd_bl)
 pdss_nil) pdss_nil)
 (pdss_cons (q_set r 9 (q_var 13))
 pdss_nil))))))))
 (pdss_cons (q_set r 14 (q_T (op_tuple) (q_cons (q_call (hj := Nat.le_refl _) G_law_rows hr r (q_cons (q_var 1) (q_cons pd_int pda_nil))) pda_nil) T.n_tuple))
 (pdss_cons (pds_if (q_tcmp (op_neDD r.u64) (q_f (op_repr r.u80 r.hg) (q_cons (q_call (hj := Nat.le_refl _) G_all_done hr r (q_cons (q_var 9) (q_cons (q_var 14) pda_nil))) pda_nil) T.n_repr) (q_f (op_repr r.u80 r.hg) (q_cons (q_call (hj := Nat.le_refl _) G_law_told_pages hr r (q_cons (q_call (hj := Nat.le_refl _) G_law_do_all hr r (q_cons (q_var 8) (q_cons (q_var 14) pda_nil))) pda_nil)) pda_nil) T.n_repr)) (pdss_cons (pds_ret pd_bl)
 pdss_nil) pdss_nil)
 pdss_nil)))))))))))))
 (pdss_cons (pds_ret pd_bl)
 pdss_nil)))
end
end L3.K55
namespace L3.K55
open PySem PySem.Spec PyProof.Rows L2
section
variable {P : Program} {w : PySem.World} {K : PySem.W.Frag} {mg : Str → Option Value} {base : Heap}
theorem rd_law_by_name {k : Nat} (T : Tx K mg) {sp_law_draw : DSp} (G_law_draw : FS P w K mg base k "_law_draw" s_law_draw ["_law_deck_here", "_law_many"] sp_law_draw) (cdv : Value) (A : Around) (outer : List Env) (s : Shared) (H : Hp) (E : XK) {f : Addr} (c : Ctx) (hr : Room k (A.deeper (envOfC "_law_by_name" (defScope s_law_by_name) s.heap.objs.size f cdv)))
    (r : Rm (cxOf CX0 P w K mg base N_law_by_name "_law_by_name" (defScope s_law_by_name) f cdv A outer s H E).nox) : PDSs (cxOf CX0 P w K mg base N_law_by_name "_law_by_name" (defScope s_law_by_name) f cdv A outer s H E).nox c (defBody s_law_by_name) (td_law_by_name sp_law_draw) :=
 (pdss_cons (pds_ret (q_cmp (op_eqDD r.u64) (q_call (hj := Nat.le_refl _) G_law_draw hr r (q_cons (q_var 0) (q_cons pd_int pda_nil))) pd_int))
 pdss_nil)
end
end L3.K55
namespace L3.K55
open PySem PySem.Spec PyProof.Rows L2
section
variable {P : Program} {w : PySem.World} {K : PySem.W.Frag} {mg : Str → Option Value} {base : Heap}
theorem rd_law_deal {k : Nat} (T : Tx K mg) {sp_law_pick : DSp} (G_law_pick : FS P w K mg base k "_law_pick" s_law_pick ["_law_deck_here", "_law_some"] sp_law_pick) {sp_law_draw : DSp} (G_law_draw : FS P w K mg base k "_law_draw" s_law_draw ["_law_deck_here", "_law_many"] sp_law_draw) (cdv : Value) (A : Around) (outer : List Env) (s : Shared) (H : Hp) (E : XK) {f : Addr} (c : Ctx) (hr : Room k (A.deeper (envOfC "_law_deal" (defScope s_law_deal) s.heap.objs.size f cdv)))
    (r : Rm (cxOf CX0 P w K mg base N_law_deal "_law_deal" (defScope s_law_deal) f cdv A outer s H E).nox) : PDSs (cxOf CX0 P w K mg base N_law_deal "_law_deal" (defScope s_law_deal) f cdv A outer s H E).nox c (defBody s_law_deal) (td_law_deal sp_law_pick sp_law_draw) :=
 (pdss_cons (pds_ret (q_call (hj := Nat.le_refl _) G_law_pick hr r (q_cons (q_var 0) (q_cons (pd_lst (q_cons pd_int (q_cons pd_int (q_cons pd_int (q_cons pd_int (q_cons pd_int (q_cons pd_int (q_cons (q_call (hj := Nat.le_refl _) G_law_draw hr r (q_cons (q_var 0) (q_cons pd_int pda_nil))) pda_nil)))))))) pda_nil))))
 pdss_nil)
end
end L3.K55
namespace L3.K55
open PySem PySem.Spec PyProof.Rows L2
section
variable {P : Program} {w : PySem.World} {K : PySem.W.Frag} {mg : Str → Option Value} {base : Heap}
theorem rd_law_deck {k : Nat} (T : Tx K mg) (cdv : Value) (A : Around) (outer : List Env) (s : Shared) (H : Hp) (E : XK) {f : Addr} (c : Ctx) (hr : Room k (A.deeper (envOfC "_law_deck" (defScope s_law_deck) s.heap.objs.size f cdv)))
    (r : Rm (cxOf CX0 P w K mg base N_law_deck "_law_deck" (defScope s_law_deck) f cdv A outer s H E).nox) : PDSs (cxOf CX0 P w K mg base N_law_deck "_law_deck" (defScope s_law_deck) f cdv A outer s H E).nox c (defBody s_law_deck) td_law_deck :=
 (pdss_cons (q_set r 1 pd_int)
 (pdss_cons (q_for r (pdi_val (pd_sl (o := false) (q_var 0) pdo_none (pdo_some pd_int))) (fun _ => (q_name r 2)) (fun _ => (pdss_cons (q_set r 1 (pd_bin op_modD (q_T (op_int) (q_cons (pd_bin op_addD (pd_bin op_addD (pd_bin op_mulD (q_var 1) pd_int) (pd_bin op_modD (q_T (op_int) (q_cons (q_var 2) pda_nil) T.n_int) pd_int)) pd_int) pda_nil) T.n_int) pd_int))
 pdss_nil)))
 (pdss_cons (pds_ret (q_disp (o := true) (pdps_cons (pd_str (by decide)) (pd_rev (o := true) (q_T (op_list (o := false)) (q_cons (pd_sl (o := false) (q_var 0) pdo_none (pdo_some pd_int)) pda_nil) T.n_list)) (pdps_cons (pd_str (by decide)) (q_var 1) (pdps_cons (pd_str (by decide)) pd_int pdps_nil)))))
 pdss_nil)))
end
end L3.K55
namespace L3.K55
open PySem PySem.Spec PyProof.Rows L2
section
variable {P : Program} {w : PySem.World} {K : PySem.W.Frag} {mg : Str → Option Value} {base : Heap}
theorem rd_law_do {k : Nat} (T : Tx K mg) {sp_law_place : DSp} (G_law_place : FS P w K mg base k "_law_place" s_law_place ["_law_key_here", "_law_many"] sp_law_place) (cdv : Value) (A : Around) (outer : List Env) (s : Shared) (H : Hp) (E : XK) {f : Addr} (c : Ctx) (hr : Room k (A.deeper (envOfC "_law_do" (defScope s_law_do) s.heap.objs.size f cdv)))
    (r : Rm (cxOf CX0 P w K mg base N_law_do "_law_do" (defScope s_law_do) f cdv A outer s H E).nox) : PDSs (cxOf CX0 P w K mg base N_law_do "_law_do" (defScope s_law_do) f cdv A outer s H E).nox c (defBody s_law_do) (td_law_do sp_law_place) :=
 (pdss_cons (pds_if (q_tcmp (op_inD r.u80) (q_ix r (q_var 2) pd_int) (pd_tup (q_cons (pd_str (by decide)) (q_cons (pd_str (by decide)) pda_nil)))) (pdss_cons (q_set r 3 (q_call (hj := Nat.le_refl _) G_law_place hr r (q_cons (q_ix r (q_var 2) pd_int) (q_cons (q_f (op_len) (q_cons (q_var 0) pda_nil) T.n_len) pda_nil))))
 (pdss_cons (q_asg (q_ix r (q_var 0) (q_var 3)) (q_gtup r 2 (q_gcons (q_name r 4) (q_gcons (q_name r 5) pdgs_nil))))
 (pdss_cons (pds_if (q_tcmp (op_ordD .lt r.u64) (q_var 4) (q_var 1)) (pdss_cons (q_set r 6 (q_T (op_dict (o := true) r.calm) (q_cons (q_var 5) pda_nil) T.n_dict))
 (pdss_cons (q_put r (q_var 6) (q_ix r (q_var 2) pd_int) (q_ix r (q_var 2) (q_neg pd_int)))
 (pdss_cons (pds_if (q_tcmp (op_isD) (q_ix r (q_var 2) (q_neg pd_int)) pd_non) (pdss_cons (q_expr (q_m (op_dpop) PySem.F.plainAttrs_dict PySem.F.slot_dict_pop PySem.F.type_dict_pop (q_var 6) (q_cons (q_ix r (q_var 2) pd_int) pda_nil)))
 pdss_nil) pdss_nil)
 (pdss_cons (q_put r (q_var 0) (q_var 3) (pd_tup (q_cons (q_var 1) (q_cons (q_var 6) pda_nil))))
 pdss_nil)))) pdss_nil)
 pdss_nil))) pdss_nil)
 pdss_nil)
end
end L3.K55
namespace L3.K55
open PySem PySem.Spec PyProof.Rows L2
section
variable {P : Program} {w : PySem.World} {K : PySem.W.Frag} {mg : Str → Option Value} {base : Heap}
theorem rd_law_do_all {k : Nat} (T : Tx K mg) {sp_law_do : DSp} (G_law_do : FS P w K mg base k "_law_do" s_law_do ["_law_table_here", "_law_number", "_law_row_here"] sp_law_do) (cdv : Value) (A : Around) (outer : List Env) (s : Shared) (H : Hp) (E : XK) {f : Addr} (c : Ctx) (hr : Room k (A.deeper (envOfC "_law_do_all" (defScope s_law_do_all) s.heap.objs.size f cdv)))
    (r : Rm (cxOf CX0 P w K mg base N_law_do_all "_law_do_all" (defScope s_law_do_all) f cdv A outer s H E).nox) : PDSs (cxOf CX0 P w K mg base N_law_do_all "_law_do_all" (defScope s_law_do_all) f cdv A outer s H E).nox c (defBody s_law_do_all) (td_law_do_all sp_law_do) :=
 (pdss_cons (q_for r (q_enum (q_cons (q_var 1) pda_nil) T.n_enumerate) (fun _ => (q_gtup r 2 (q_gcons (q_name r 2) (q_gcons (q_name r 3) pdgs_nil)))) (fun _ => (pdss_cons (q_expr (q_call (hj := Nat.le_refl _) G_law_do hr r (q_cons (q_var 0) (q_cons (pd_bin op_addD (q_var 2) pd_int) (q_cons (q_var 3) pda_nil)))))
 pdss_nil)))
 (pdss_cons (pds_ret (q_var 0))
 pdss_nil))
end
end L3.K55
namespace L3.K55
open PySem PySem.Spec PyProof.Rows L2
section
variable {P : Program} {w : PySem.World} {K : PySem.W.Frag} {mg : Str → Option Value} {base : Heap}
theorem rd_law_draw {k : Nat} (T : Tx K mg) (cdv : Value) (A : Around) (outer : List Env) (s : Shared) (H : Hp) (E : XK) {f : Addr} (c : Ctx) (hr : Room k (A.deeper (envOfC "_law_draw" (defScope s_law_draw) s.heap.objs.size f cdv)))
    (r : Rm (cxOf CX0 P w K mg base N_law_draw "_law_draw" (defScope s_law_draw) f cdv A outer s H E).nox) : PDSs (cxOf CX0 P w K mg base N_law_draw "_law_draw" (defScope s_law_draw) f cdv A outer s H E).nox c (defBody s_law_draw) td_law_draw :=
 (pdss_cons (q_put r (q_var 0) (pd_str (by decide)) (pd_bin op_addD (q_ix r (q_var 0) (pd_str (by decide))) pd_int))
 (pdss_cons (q_set r 2 (pd_bin op_addD (q_ix r (q_var 0) (pd_str (by decide))) (pd_bin op_mulD pd_int (q_ix r (q_var 0) (pd_str (by decide))))))
 (pdss_cons (pds_if (q_tcmp (op_neDD r.u64) (q_ix r (q_var 0) (pd_str (by decide))) (pd_lst pda_nil)) (pdss_cons (q_set r 3 (q_m0 (op_pop) PySem.F.plainAttrs_list PySem.F.slot_list_pop PySem.F.type_list_pop (q_ix r (q_var 0) (pd_str (by decide)))))
 (pdss_cons (pds_if (q_tcmp (op_ordD .ge r.u64) (q_var 3) (pd_bin op_powD pd_int pd_int)) (pdss_cons (q_expr (q_m (op_append) PySem.F.plainAttrs_list PySem.F.slot_list_append PySem.F.type_list_append (q_ix r (q_var 0) (pd_str (by decide))) (q_cons (pd_bin op_fdivD (q_var 3) (q_f (op_max2 r.calm) (q_cons pd_int (q_cons (q_var 1) pda_nil)) T.n_max)) pda_nil)))
 (pdss_cons (pds_ret (pd_bin op_modD (q_T (op_int) (q_cons (q_var 3) pda_nil) T.n_int) (q_var 1)))
 pdss_nil)) pdss_nil)
 (pdss_cons (q_set r 2 (pd_bin op_addD (q_var 2) (pd_bin op_modD (q_T (op_int) (q_cons (q_var 3) pda_nil) T.n_int) pd_int)))
 pdss_nil))) pdss_nil)
 (pdss_cons (q_set r 2 (pd_bin op_modD (q_T (op_int) (q_cons (pd_bin op_addD (pd_bin op_mulD (q_var 2) pd_int) pd_int) pda_nil) T.n_int) pd_int))
 (pdss_cons (q_set r 2 (pd_bin op_modD (q_T (op_int) (q_cons (pd_bin op_addD (pd_bin op_addD (pd_bin op_mulD (q_var 2) (q_var 2)) (pd_bin op_mulD pd_int (q_ix r (q_var 0) (pd_str (by decide))))) pd_int) pda_nil) T.n_int) pd_int))
 (pdss_cons (q_set r 2 (pd_bin op_modD (q_T (op_int) (q_cons (pd_bin op_mulD (q_var 2) pd_int) pda_nil) T.n_int) pd_int))
 (pdss_cons (pds_ret (pd_bin op_modD (q_T (op_int) (q_cons (pd_bin op_fdivD (q_var 2) pd_int) pda_nil) T.n_int) (q_var 1)))
 pdss_nil)))))))
end
end L3.K55
namespace L3.K55
open PySem PySem.Spec PyProof.Rows L2
section
variable {P : Program} {w : PySem.World} {K : PySem.W.Frag} {mg : Str → Option Value} {base : Heap}
theorem rd_law_key {k : Nat} (T : Tx K mg) {sp_law_pick : DSp} (G_law_pick : FS P w K mg base k "_law_pick" s_law_pick ["_law_deck_here", "_law_some"] sp_law_pick) (cdv : Value) (A : Around) (outer : List Env) (s : Shared) (H : Hp) (E : XK) {f : Addr} (c : Ctx) (hr : Room k (A.deeper (envOfC "_law_key" (defScope s_law_key) s.heap.objs.size f cdv)))
    (r : Rm (cxOf CX0 P w K mg base N_law_key "_law_key" (defScope s_law_key) f cdv A outer s H E).nox) : PDSs (cxOf CX0 P w K mg base N_law_key "_law_key" (defScope s_law_key) f cdv A outer s H E).nox c (defBody s_law_key) (td_law_key sp_law_pick) :=
 (pdss_cons (pds_ret (q_call (hj := Nat.le_refl _) G_law_pick hr r (q_cons (q_var 0) (q_cons (pd_lst (q_cons (pd_str (by decide)) (q_cons (pd_str (by decide)) (q_cons (pd_str (by decide)) (q_cons (pd_str (by decide)) (q_cons (pd_str (by decide)) (q_cons (pd_str (by decide)) (q_cons (pd_str (by decide)) (q_cons (pd_str (by decide)) pda_nil))))))))) pda_nil))))
 pdss_nil)
end
end L3.K55
namespace L3.K55
open PySem PySem.Spec PyProof.Rows L2
section
variable {P : Program} {w : PySem.World} {K : PySem.W.Frag} {mg : Str → Option Value} {base : Heap}
theorem rd_law_pick {k : Nat} (T : Tx K mg) {sp_law_draw : DSp} (G_law_draw : FS P w K mg base k "_law_draw" s_law_draw ["_law_deck_here", "_law_many"] sp_law_draw) (cdv : Value) (A : Around) (outer : List Env) (s : Shared) (H : Hp) (E : XK) {f : Addr} (c : Ctx) (hr : Room k (A.deeper (envOfC "_law_pick" (defScope s_law_pick) s.heap.objs.size f cdv)))
    (r : Rm (cxOf CX0 P w K mg base N_law_pick "_law_pick" (defScope s_law_pick) f cdv A outer s H E).nox) : PDSs (cxOf CX0 P w K mg base N_law_pick "_law_pick" (defScope s_law_pick) f cdv A outer s H E).nox c (defBody s_law_pick) (td_law_pick sp_law_draw) :=
 (pdss_cons (pds_ret (q_ix r (q_var 1) (q_call (hj := Nat.le_refl _) G_law_draw hr r (q_cons (q_var 0) (q_cons (q_f (op_len) (q_cons (q_var 1) pda_nil) T.n_len) pda_nil)))))
 pdss_nil)
end
end L3.K55
namespace L3.K55
open PySem PySem.Spec PyProof.Rows L2
section
variable {P : Program} {w : PySem.World} {K : PySem.W.Frag} {mg : Str → Option Value} {base : Heap}
theorem rd_law_place {k : Nat} (T : Tx K mg) (cdv : Value) (A : Around) (outer : List Env) (s : Shared) (H : Hp) (E : XK) {f : Addr} (c : Ctx) (hr : Room k (A.deeper (envOfC "_law_place" (defScope s_law_place) s.heap.objs.size f cdv)))
    (r : Rm (cxOf CX0 P w K mg base N_law_place "_law_place" (defScope s_law_place) f cdv A outer s H E).nox) : PDSs (cxOf CX0 P w K mg base N_law_place "_law_place" (defScope s_law_place) f cdv A outer s H E).nox c (defBody s_law_place) td_law_place :=
 (pdss_cons (q_set r 2 (pd_str (by decide)))
 (pdss_cons (pds_ret (pd_bin op_modD (q_T (op_int) (q_cons (q_f (op_sum r.calm) (q_cons (q_lc false r [("_law_x", 3)] (pdi_val (q_var 0)) (fun _ _ _ _ _ _ => (q_name r.blk 3)) (fun _ _ _ _ _ _ => pdts_nil) (fun _ _ _ _ _ _ => (q_m (op_sindex) PySem.F.plainAttrs_str PySem.F.slot_str_index PySem.F.type_str_index (q_var 2) (q_cons (q_var 3) pda_nil)))) pda_nil) T.n_sum) pda_nil) T.n_int) (q_var 1)))
 pdss_nil))
end
end L3.K55
namespace L3.K55
open PySem PySem.Spec PyProof.Rows L2
section
variable {P : Program} {w : PySem.World} {K : PySem.W.Frag} {mg : Str → Option Value} {base : Heap}
theorem rd_law_row {k : Nat} (T : Tx K mg) {sp_law_pick : DSp} (G_law_pick : FS P w K mg base k "_law_pick" s_law_pick ["_law_deck_here", "_law_some"] sp_law_pick) {sp_law_worth : DSp} (G_law_worth : FS P w K mg base k "_law_worth" s_law_worth ["_law_deck_here"] sp_law_worth) {sp_law_key : DSp} (G_law_key : FS P w K mg base k "_law_key" s_law_key ["_law_deck_here"] sp_law_key) {sp_law_deal : DSp} (G_law_deal : FS P w K mg base k "_law_deal" s_law_deal ["_law_deck_here"] sp_law_deal) {sp_law_draw : DSp} (G_law_draw : FS P w K mg base k "_law_draw" s_law_draw ["_law_deck_here", "_law_many"] sp_law_draw) (cdv : Value) (A : Around) (outer : List Env) (s : Shared) (H : Hp) (E : XK) {f : Addr} (c : Ctx) (hr : Room k (A.deeper (envOfC "_law_row" (defScope s_law_row) s.heap.objs.size f cdv)))
    (r : Rm (cxOf CX0 P w K mg base N_law_row "_law_row" (defScope s_law_row) f cdv A outer s H E).nox) : PDSs (cxOf CX0 P w K mg base N_law_row "_law_row" (defScope s_law_row) f cdv A outer s H E).nox c (defBody s_law_row) (td_law_row sp_law_pick sp_law_worth sp_law_key sp_law_deal sp_law_draw) :=
 (pdss_cons (pds_par r.calm r.nd (i := 1) (j := 2) rfl rfl (by decide) rfl rfl (q_cons (q_call (hj := Nat.le_refl _) G_law_draw hr r (q_cons (q_var 0) (q_cons pd_int pda_nil))) (q_cons (q_call (hj := Nat.le_refl _) G_law_deal hr r (q_cons (q_var 0) pda_nil)) pda_nil)) rfl rfl)
 (pdss_cons (pds_if (q_tcmp (op_eqDD r.u64) (q_var 1) pd_int) (pdss_cons (q_set r 3 (pd_lst (q_cons (pd_tup (q_cons pd_int (q_cons pd_int pda_nil))) (q_cons (pd_tup (q_cons pd_int (q_cons pd_int (q_cons pd_int pda_nil)))) (q_cons (pd_tup (q_cons pd_int (q_cons pd_int (q_cons pd_int (q_cons pd_int pda_nil))))) (q_cons (pd_tup (q_cons pd_int (q_cons pd_int pda_nil))) (q_cons (pd_tup (q_cons pd_int (q_cons pd_int (q_cons pd_int (q_cons pd_int pda_nil))))) pda_nil)))))))
 (pdss_cons (pds_ret (pd_tup (q_cons (pd_str (by decide)) (q_cons (q_var 2) (q_cons (q_call (hj := Nat.le_refl _) G_law_pick hr r (q_cons (q_var 0) (q_cons (pd_lst (q_cons (pd_str (by decide)) (q_cons (pd_str (by decide)) pda_nil))) pda_nil))) (q_cons (q_call (hj := Nat.le_refl _) G_law_pick hr r (q_cons (q_var 0) (q_cons (q_var 3) pda_nil))) pda_nil))))))
 pdss_nil)) pdss_nil)
 (pdss_cons (pds_if (q_tcmp (op_eqDD r.u64) (q_var 1) pd_int) (pdss_cons (pds_ret (pd_tup (q_cons (pd_str (by decide)) (q_cons (q_var 2) (q_cons (q_call (hj := Nat.le_refl _) G_law_key hr r (q_cons (q_var 0) pda_nil)) pda_nil)))))
 pdss_nil) pdss_nil)
 (pdss_cons (pds_if (q_tcmp (op_ordD .lt r.u64) (q_var 1) pd_int) (pdss_cons (pds_ret (pd_tup (q_cons (pd_str (by decide)) (q_cons (q_var 2) (q_cons (q_call (hj := Nat.le_refl _) G_law_key hr r (q_cons (q_var 0) pda_nil)) (q_cons (q_call (hj := Nat.le_refl _) G_law_worth hr r (q_cons (q_var 0) pda_nil)) (q_cons (q_call (hj := Nat.le_refl _) G_law_worth hr r (q_cons (q_var 0) pda_nil)) pda_nil)))))))
 pdss_nil) pdss_nil)
 (pdss_cons (pds_if (q_tcmp (op_eqDD r.u64) (q_var 1) pd_int) (pdss_cons (pds_ret (pd_tup (q_cons (pd_str (by decide)) (q_cons (q_var 2) (q_cons (q_call (hj := Nat.le_refl _) G_law_key hr r (q_cons (q_var 0) pda_nil)) (q_cons (q_call (hj := Nat.le_refl _) G_law_worth hr r (q_cons (q_var 0) pda_nil)) pda_nil))))))
 pdss_nil) pdss_nil)
 (pdss_cons (pds_if (q_tcmp (op_ordD .lt r.u64) (q_var 1) pd_int) (pdss_cons (pds_ret (pd_tup (q_cons (pd_str (by decide)) (q_cons (q_var 2) (q_cons (q_call (hj := Nat.le_refl _) G_law_pick hr r (q_cons (q_var 0) (q_cons (pd_lst (q_cons (pd_str (by decide)) (q_cons (pd_str (by decide)) (q_cons (pd_str (by decide)) (q_cons (pd_str (by decide)) (q_cons (pd_str (by decide)) pda_nil)))))) pda_nil))) pda_nil)))))
 pdss_nil) pdss_nil)
 (pdss_cons (pds_ret (pd_tup (q_cons (pd_str (by decide)) (q_cons (q_var 2) (q_cons (q_call (hj := Nat.le_refl _) G_law_pick hr r (q_cons (q_var 0) (q_cons (pd_lst (q_cons (pd_str (by decide)) (q_cons (pd_str (by decide)) pda_nil))) pda_nil))) pda_nil)))))
 pdss_nil)))))))
end
end L3.K55
namespace L3.K55
open PySem PySem.Spec PyProof.Rows L2
section
variable {P : Program} {w : PySem.World} {K : PySem.W.Frag} {mg : Str → Option Value} {base : Heap}
theorem rd_law_rows {k : Nat} (T : Tx K mg) {sp_law_draw : DSp} (G_law_draw : FS P w K mg base k "_law_draw" s_law_draw ["_law_deck_here", "_law_many"] sp_law_draw) {sp_law_row : DSp} (G_law_row : FS P w K mg base k "_law_row" s_law_row ["_law_deck_here"] sp_law_row) (cdv : Value) (A : Around) (outer : List Env) (s : Shared) (H : Hp) (E : XK) {f : Addr} (c : Ctx) (hr : Room k (A.deeper (envOfC "_law_rows" (defScope s_law_rows) s.heap.objs.size f cdv)))
    (r : Rm (cxOf CX0 P w K mg base N_law_rows "_law_rows" (defScope s_law_rows) f cdv A outer s H E).nox) : PDSs (cxOf CX0 P w K mg base N_law_rows "_law_rows" (defScope s_law_rows) f cdv A outer s H E).nox c (defBody s_law_rows) (td_law_rows sp_law_draw sp_law_row) :=
 (pdss_cons (pds_ret (q_lc false r [("_law_turn", 2)] (q_range1 (q_cons (q_call (hj := Nat.le_refl _) G_law_draw hr r (q_cons (q_var 0) (q_cons (pd_bin op_addD (q_var 1) pd_int) pda_nil))) pda_nil) T.n_range) (fun _ _ _ _ _ _ => (q_name r.blk 2)) (fun _ _ _ _ _ _ => pdts_nil) (fun _ _ _ _ _ _ => (q_call (hj := Nat.le_refl _) G_law_row hr r.blk (q_cons (q_var 0) pda_nil)))))
 pdss_nil)
end
end L3.K55
namespace L3.K55
open PySem PySem.Spec PyProof.Rows L2
section
variable {P : Program} {w : PySem.World} {K : PySem.W.Frag} {mg : Str → Option Value} {base : Heap}
theorem rd_law_table {k : Nat} (T : Tx K mg) (cdv : Value) (A : Around) (outer : List Env) (s : Shared) (H : Hp) (E : XK) {f : Addr} (c : Ctx) (hr : Room k (A.deeper (envOfC "_law_table" (defScope s_law_table) s.heap.objs.size f cdv)))
    (r : Rm (cxOf CX0 P w K mg base N_law_table "_law_table" (defScope s_law_table) f cdv A outer s H E).nox) : PDSs (cxOf CX0 P w K mg base N_law_table "_law_table" (defScope s_law_table) f cdv A outer s H E).nox c (defBody s_law_table) td_law_table :=
 (pdss_cons (pds_ret (q_lc true r [("_law_at", 1)] (q_range1 (q_cons (q_var 0) pda_nil) T.n_range) (fun _ _ _ _ _ _ => (q_name r.blk 1)) (fun _ _ _ _ _ _ => pdts_nil) (fun _ _ _ _ _ _ => (pd_tup (q_cons pd_int (q_cons (pd_dic0 (o := false)) pda_nil))))))
 pdss_nil)
end
end L3.K55
namespace L3.K55
open PySem PySem.Spec PyProof.Rows L2
section
variable {P : Program} {w : PySem.World} {K : PySem.W.Frag} {mg : Str → Option Value} {base : Heap}
theorem rd_law_told_pages {k : Nat} (T : Tx K mg) (cdv : Value) (A : Around) (outer : List Env) (s : Shared) (H : Hp) (E : XK) {f : Addr} (c : Ctx) (hr : Room k (A.deeper (envOfC "_law_told_pages" (defScope s_law_told_pages) s.heap.objs.size f cdv)))
    (r : Rm (cxOf CX0 P w K mg base N_law_told_pages "_law_told_pages" (defScope s_law_told_pages) f cdv A outer s H E).nox) : PDSs (cxOf CX0 P w K mg base N_law_told_pages "_law_told_pages" (defScope s_law_told_pages) f cdv A outer s H E).nox c (defBody s_law_told_pages) td_law_told_pages :=
 (pdss_cons (pds_ret (q_T (op_tuple) (q_cons (q_lc false r [("_law_last", 1), ("_law_worths_here", 2)] (pdi_val (q_var 0)) (fun _ _ _ _ _ _ => (q_gtup r.blk 2 (q_gcons (q_name r.blk 1) (q_gcons (q_name r.blk 2) pdgs_nil)))) (fun _ _ _ _ _ _ => pdts_nil) (fun _ _ _ _ _ _ => (pd_tup (q_cons (q_var 1) (q_cons (q_T (op_tuple) (q_cons (q_lc false r.blk [("_law_key_here", 3)] (pdi_val (q_f (op_sorted (o := false) r.blk.calm r.blk.u80) (q_cons (q_var 2) pda_nil) T.n_sorted)) (fun _ _ _ _ _ _ => (q_name r.blk.blk 3)) (fun _ _ _ _ _ _ => pdts_nil) (fun _ _ _ _ _ _ => (pd_tup (q_cons (q_var 3) (q_cons (q_ix r.blk.blk (q_var 2) (q_var 3)) pda_nil))))) pda_nil) T.n_tuple) pda_nil))))) pda_nil) T.n_tuple))
 pdss_nil)
end
end L3.K55
namespace L3.K55
open PySem PySem.Spec PyProof.Rows L2
section
variable {P : Program} {w : PySem.World} {K : PySem.W.Frag} {mg : Str → Option Value} {base : Heap}
theorem rd_law_worth {k : Nat} (T : Tx K mg) {sp_law_pick : DSp} (G_law_pick : FS P w K mg base k "_law_pick" s_law_pick ["_law_deck_here", "_law_some"] sp_law_pick) {sp_law_draw : DSp} (G_law_draw : FS P w K mg base k "_law_draw" s_law_draw ["_law_deck_here", "_law_many"] sp_law_draw) (cdv : Value) (A : Around) (outer : List Env) (s : Shared) (H : Hp) (E : XK) {f : Addr} (c : Ctx) (hr : Room k (A.deeper (envOfC "_law_worth" (defScope s_law_worth) s.heap.objs.size f cdv)))
    (r : Rm (cxOf CX0 P w K mg base N_law_worth "_law_worth" (defScope s_law_worth) f cdv A outer s H E).nox) : PDSs (cxOf CX0 P w K mg base N_law_worth "_law_worth" (defScope s_law_worth) f cdv A outer s H E).nox c (defBody s_law_worth) (td_law_worth sp_law_pick sp_law_draw) :=
 (pdss_cons (pds_ret (q_call (hj := Nat.le_refl _) G_law_pick hr r (q_cons (q_var 0) (q_cons (pd_lst (q_cons pd_int (q_cons pd_int (q_cons (q_neg pd_int) (q_cons pd_non (q_cons pd_int (q_cons (q_neg pd_int) (q_cons pd_int (q_cons (q_neg pd_int) (q_cons (q_call (hj := Nat.le_refl _) G_law_draw hr r (q_cons (q_var 0) (q_cons pd_int pda_nil))) pda_nil)))))))))) pda_nil))))
 pdss_nil)
end
end L3.K55
namespace L3.K55
open PySem PySem.Spec PyProof.Rows L2
section
variable {P : Program} {w : PySem.World} {K : PySem.W.Frag} {mg : Str → Option Value} {base : Heap}
theorem rd_law_worths {k : Nat} (T : Tx K mg) (cdv : Value) (A : Around) (outer : List Env) (s : Shared) (H : Hp) (E : XK) {f : Addr} (c : Ctx) (hr : Room k (A.deeper (envOfC "_law_worths" (defScope s_law_worths) s.heap.objs.size f cdv)))
    (r : Rm (cxOf CX0 P w K mg base N_law_worths "_law_worths" (defScope s_law_worths) f cdv A outer s H E).nox) : PDSs (cxOf CX0 P w K mg base N_law_worths "_law_worths" (defScope s_law_worths) f cdv A outer s H E).nox c (defBody s_law_worths) td_law_worths :=
 (pdss_cons (q_set r 1 (pd_dic0 (o := true)))
 (pdss_cons (q_for r (pdi_val (q_var 0)) (fun _ => (q_name r 2)) (fun _ => (pdss_cons (pds_if (q_tcmp (op_inD r.u80) (q_ix r (q_var 2) pd_int) (pd_tup (q_cons (pd_str (by decide)) (q_cons (pd_str (by decide)) pda_nil)))) (pdss_cons (q_put r (q_var 1) (q_ix r (q_var 2) pd_int) (q_ix r (q_var 2) (q_neg pd_int)))
 pdss_nil) pdss_nil)
 pdss_nil)))
 (pdss_cons (pds_ret (q_T (op_tuple) (q_cons (q_lc false r [("_law_key_here", 3)] (pdi_val (q_f (op_sorted (o := false) r.calm r.u80) (q_cons (q_var 1) pda_nil) T.n_sorted)) (fun _ _ _ _ _ _ => (q_name r.blk 3)) (fun _ _ _ _ _ _ => (pdts_one (q_tcmp (op_isNotD) (q_ix r.blk (q_var 1) (q_var 3)) pd_non))) (fun _ _ _ _ _ _ => (pd_tup (q_cons (q_var 3) (q_cons (q_ix r.blk (q_var 1) (q_var 3)) pda_nil))))) pda_nil) T.n_tuple))
 pdss_nil)))
end
end L3.K55
namespace L3.K55
open PySem PySem.Spec PyProof.Rows L2
section
variable {P : Program} {w : PySem.World} {K : PySem.W.Frag} {mg : Str → Option Value} {base : Heap}
theorem rd_need_many {k : Nat} (T : Tx K mg) {sp_is_between : DSp} (G_is_between : FS P w K mg base k "is_between" s_is_between ["thing", "least", "most"] sp_is_between) (cdv : Value) (A : Around) (outer : List Env) (s : Shared) (H : Hp) (E : XK) {f : Addr} (c : Ctx) (hr : Room k (A.deeper (envOfC "need_many" (defScope s_need_many) s.heap.objs.size f cdv)))
    (r : Rm (cxOf CX0 P w K mg base N_need_many "need_many" (defScope s_need_many) f cdv A outer s H E).nox) : PDSs (cxOf CX0 P w K mg base N_need_many "need_many" (defScope s_need_many) f cdv A outer s H E).nox c (defBody s_need_many) (td_need_many sp_is_between) :=
 (pdss_cons (pds_if (pdt_not (q_tru (q_call (hj := Nat.le_refl _) G_is_between hr r (q_cons (q_var 0) (q_cons pd_int (q_cons (q_gd T.c_MOST_PAGES) pda_nil)))))) (pdss_cons pds_never
 pdss_nil) pdss_nil)
 pdss_nil)
end
end L3.K55
namespace L3.K55
open PySem PySem.Spec PyProof.Rows L2
section
variable {P : Program} {w : PySem.World} {K : PySem.W.Frag} {mg : Str → Option Value} {base : Heap}
theorem rd_need_pages {k : Nat} (T : Tx K mg) {sp_are_pages_value : DSp} (G_are_pages_value : FS P w K mg base k "are_pages_value" s_are_pages_value ["thing"] sp_are_pages_value) (cdv : Value) (A : Around) (outer : List Env) (s : Shared) (H : Hp) (E : XK) {f : Addr} (c : Ctx) (hr : Room k (A.deeper (envOfC "need_pages" (defScope s_need_pages) s.heap.objs.size f cdv)))
    (r : Rm (cxOf CX0 P w K mg base N_need_pages "need_pages" (defScope s_need_pages) f cdv A outer s H E).nox) : PDSs (cxOf CX0 P w K mg base N_need_pages "need_pages" (defScope s_need_pages) f cdv A outer s H E).nox c (defBody s_need_pages) (td_need_pages sp_are_pages_value) :=
 (pdss_cons (pds_if (pdt_not (q_tru (q_call (hj := Nat.le_refl _) G_are_pages_value hr r (q_cons (q_var 0) pda_nil)))) (pdss_cons pds_never
 pdss_nil) pdss_nil)
 pdss_nil)
end
end L3.K55
namespace L3.K55
open PySem PySem.Spec PyProof.Rows L2
section
variable {P : Program} {w : PySem.World} {K : PySem.W.Frag} {mg : Str → Option Value} {base : Heap}
theorem rd_need_row {k : Nat} (T : Tx K mg) {sp_is_row_value : DSp} (G_is_row_value : FS P w K mg base k "is_row_value" s_is_row_value ["thing"] sp_is_row_value) (cdv : Value) (A : Around) (outer : List Env) (s : Shared) (H : Hp) (E : XK) {f : Addr} (c : Ctx) (hr : Room k (A.deeper (envOfC "need_row" (defScope s_need_row) s.heap.objs.size f cdv)))
    (r : Rm (cxOf CX0 P w K mg base N_need_row "need_row" (defScope s_need_row) f cdv A outer s H E).nox) : PDSs (cxOf CX0 P w K mg base N_need_row "need_row" (defScope s_need_row) f cdv A outer s H E).nox c (defBody s_need_row) (td_need_row sp_is_row_value) :=
 (pdss_cons (pds_if (pdt_not (q_tru (q_call (hj := Nat.le_refl _) G_is_row_value hr r (q_cons (q_var 0) pda_nil)))) (pdss_cons pds_never
 pdss_nil) pdss_nil)
 pdss_nil)
end
end L3.K55
namespace L3.K55
open PySem PySem.Spec PyProof.Rows L2
section
variable {P : Program} {w : PySem.World} {K : PySem.W.Frag} {mg : Str → Option Value} {base : Heap}
theorem rd_need_rows {k : Nat} (T : Tx K mg) {sp_are_rows_value : DSp} (G_are_rows_value : FS P w K mg base k "are_rows_value" s_are_rows_value ["thing"] sp_are_rows_value) (cdv : Value) (A : Around) (outer : List Env) (s : Shared) (H : Hp) (E : XK) {f : Addr} (c : Ctx) (hr : Room k (A.deeper (envOfC "need_rows" (defScope s_need_rows) s.heap.objs.size f cdv)))
    (r : Rm (cxOf CX0 P w K mg base N_need_rows "need_rows" (defScope s_need_rows) f cdv A outer s H E).nox) : PDSs (cxOf CX0 P w K mg base N_need_rows "need_rows" (defScope s_need_rows) f cdv A outer s H E).nox c (defBody s_need_rows) (td_need_rows sp_are_rows_value) :=
 (pdss_cons (pds_if (pdt_not (q_tru (q_call (hj := Nat.le_refl _) G_are_rows_value hr r (q_cons (q_var 0) pda_nil)))) (pdss_cons pds_never
 pdss_nil) pdss_nil)
 pdss_nil)
end
end L3.K55
namespace L3.K55
open PySem PySem.Spec PyProof.Rows L2
section
variable {P : Program} {w : PySem.World} {K : PySem.W.Frag} {mg : Str → Option Value} {base : Heap}
theorem rd_no_pages {k : Nat} (T : Tx K mg) (cdv : Value) (A : Around) (outer : List Env) (s : Shared) (H : Hp) (E : XK) {f : Addr} (c : Ctx) (hr : Room k (A.deeper (envOfC "no_pages" (defScope s_no_pages) s.heap.objs.size f cdv)))
    (r : Rm (cxOf CX0 P w K mg base N_no_pages "no_pages" (defScope s_no_pages) f cdv A outer s H E).nox) : PDSs (cxOf CX0 P w K mg base N_no_pages "no_pages" (defScope s_no_pages) f cdv A outer s H E).nox c (defBody s_no_pages) td_no_pages :=
 (pdss_cons (pds_ret (pd_bin op_mulD (pd_tup (q_cons (pd_tup (q_cons pd_int (q_cons (pd_tup pda_nil) pda_nil))) pda_nil)) (q_var 0)))
 pdss_nil)
end
end L3.K55
namespace L3.K55
open PySem PySem.Spec PyProof.Rows L2
section
variable {P : Program} {w : PySem.World} {K : PySem.W.Frag} {mg : Str → Option Value} {base : Heap}
theorem rd_page_number {k : Nat} (T : Tx K mg) (cdv : Value) (A : Around) (outer : List Env) (s : Shared) (H : Hp) (E : XK) {f : Addr} (c : Ctx) (hr : Room k (A.deeper (envOfC "page_number" (defScope s_page_number) s.heap.objs.size f cdv)))
    (r : Rm (cxOf CX0 P w K mg base N_page_number "page_number" (defScope s_page_number) f cdv A outer s H E).nox) : PDSs (cxOf CX0 P w K mg base N_page_number "page_number" (defScope s_page_number) f cdv A outer s H E).nox c (defBody s_page_number) td_page_number :=
 (pdss_cons (pds_ret (pd_bin op_modD (q_f (op_sum r.calm) (q_cons (q_lc false r [("sign", 2)] (pdi_val (q_var 0)) (fun _ _ _ _ _ _ => (q_name r.blk 2)) (fun _ _ _ _ _ _ => pdts_nil) (fun _ _ _ _ _ _ => (q_m (op_sindex) PySem.F.plainAttrs_str PySem.F.slot_str_index PySem.F.type_str_index (q_gd T.c_LETTERS) (q_cons (q_var 2) pda_nil)))) pda_nil) T.n_sum) (q_var 1)))
 pdss_nil)
end
end L3.K55
namespace L3.K55
open PySem PySem.Spec PyProof.Rows L2
section
variable {P : Program} {w : PySem.World} {K : PySem.W.Frag} {mg : Str → Option Value} {base : Heap}
theorem rd_worths_by {k : Nat} (T : Tx K mg) {sp_worths_of_rows : DSp} (G_worths_of_rows : FS P w K mg base k "worths_of_rows" s_worths_of_rows ["rows"] sp_worths_of_rows) {sp_need_rows : DSp} (G_need_rows : FS P w K mg base k "need_rows" s_need_rows ["rows"] sp_need_rows) (cdv : Value) (A : Around) (outer : List Env) (s : Shared) (H : Hp) (E : XK) {f : Addr} (c : Ctx) (hr : Room k (A.deeper (envOfC "worths_by" (defScope s_worths_by) s.heap.objs.size f cdv)))
    (r : Rm (cxOf CX0 P w K mg base N_worths_by "worths_by" (defScope s_worths_by) f cdv A outer s H E).nox) : PDSs (cxOf CX0 P w K mg base N_worths_by "worths_by" (defScope s_worths_by) f cdv A outer s H E).nox c (defBody s_worths_by) (td_worths_by sp_worths_of_rows sp_need_rows) :=
 (pdss_cons (q_expr (q_call (hj := Nat.le_refl _) G_need_rows hr r (q_cons (q_var 0) pda_nil)))
 (pdss_cons (pds_ret (q_call (hj := Nat.le_refl _) G_worths_of_rows hr r (q_cons (q_var 0) pda_nil)))
 pdss_nil))
end
end L3.K55
namespace L3.K55
open PySem PySem.Spec PyProof.Rows L2
section
variable {P : Program} {w : PySem.World} {K : PySem.W.Frag} {mg : Str → Option Value} {base : Heap}
theorem rd_worths_of_rows {k : Nat} (T : Tx K mg) {sp_all_worths : DSp} (G_all_worths : FS P w K mg base k "all_worths" s_all_worths ["pages"] sp_all_worths) {sp_done_all : DSp} (G_done_all : FS P w K mg base k "done_all" s_done_all ["pages", "rows"] sp_done_all) {sp_no_pages : DSp} (G_no_pages : FS P w K mg base k "no_pages" s_no_pages ["many"] sp_no_pages) (cdv : Value) (A : Around) (outer : List Env) (s : Shared) (H : Hp) (E : XK) {f : Addr} (c : Ctx) (hr : Room k (A.deeper (envOfC "worths_of_rows" (defScope s_worths_of_rows) s.heap.objs.size f cdv)))
    (r : Rm (cxOf CX0 P w K mg base N_worths_of_rows "worths_of_rows" (defScope s_worths_of_rows) f cdv A outer s H E).nox) : PDSs (cxOf CX0 P w K mg base N_worths_of_rows "worths_of_rows" (defScope s_worths_of_rows) f cdv A outer s H E).nox c (defBody s_worths_of_rows) (td_worths_of_rows sp_all_worths sp_done_all sp_no_pages) :=
 (pdss_cons (pds_ret (q_call (hj := Nat.le_refl _) G_all_worths hr r (q_cons (q_call (hj := Nat.le_refl _) G_done_all hr r (q_cons (q_call (hj := Nat.le_refl _) G_no_pages hr r (q_cons pd_int pda_nil)) (q_cons (q_var 0) pda_nil))) pda_nil)))
 pdss_nil)
end
end L3.K55
namespace L3.K55
open PySem PySem.Spec PyProof.Rows L2
section
variable {P : Program} {w : PySem.World} {K : PySem.W.Frag} {mg : Str → Option Value} {base : Heap}
theorem rd_worths_on {k : Nat} (T : Tx K mg) {sp_all_worths : DSp} (G_all_worths : FS P w K mg base k "all_worths" s_all_worths ["pages"] sp_all_worths) {sp_need_pages : DSp} (G_need_pages : FS P w K mg base k "need_pages" s_need_pages ["pages"] sp_need_pages) (cdv : Value) (A : Around) (outer : List Env) (s : Shared) (H : Hp) (E : XK) {f : Addr} (c : Ctx) (hr : Room k (A.deeper (envOfC "worths_on" (defScope s_worths_on) s.heap.objs.size f cdv)))
    (r : Rm (cxOf CX0 P w K mg base N_worths_on "worths_on" (defScope s_worths_on) f cdv A outer s H E).nox) : PDSs (cxOf CX0 P w K mg base N_worths_on "worths_on" (defScope s_worths_on) f cdv A outer s H E).nox c (defBody s_worths_on) (td_worths_on sp_all_worths sp_need_pages) :=
 (pdss_cons (q_expr (q_call (hj := Nat.le_refl _) G_need_pages hr r (q_cons (q_var 0) pda_nil)))
 (pdss_cons (pds_ret (q_call (hj := Nat.le_refl _) G_all_worths hr r (q_cons (q_var 0) pda_nil)))
 pdss_nil))
end
end L3.K55
namespace L3
open PySem PySem.Spec PyProof.Rows L2
/-- a def of the text stands where its name says -/
def Df (K : PySem.W.Frag) (mg : Str → Option Value) (x : Str) (st : Stmt) : Prop := ∃ f fd, L2.Fun K x x st f fd ∧ mg x = some (.ref f)
theorem df_mk {K : PySem.W.Frag} {h : Heap} {mg : Str → Option Value} {x : Str} {st : Stmt} {f : Addr} {oc kV dc pm cd ct : Value} {od an : Option Addr} {sl : Array (Option Value)} (X : K.In h) (G : h.Ns mainGlobals mg) (a : PySem.W.nsIn K mainGlobals x = some (some (.ref f)))
    (l : K.lookup f = some ⟨oc, od, .func (PySem.W.fnOf x x (defArgs st) (defBody st) (defScope st) .none kV dc pm an cd ct), sl⟩) (c : PySem.W.codeIn K cd x = true) (k : PySem.W.keepIn K (.ref f) = true) : Df K mg x st := ⟨f, _, L2.fun_mk l c k, PySem.W.mg_of X G a⟩
theorem fs_df {P : Program} {w : PySem.World} {K : PySem.W.Frag} {mg : Str → Option Value} {base : Heap} {k : Nat} {x : Str} {st : Stmt} {N ps : List Str} {dl : DSp} {td : TDS} (D : Df K mg x st) (hb : BindsF x st ps) (S : FnScope N ps (defScope st))
    (rd : ∀ (f : Addr) (cdv : Value) (A : Around) (outer : List Env) (s : Shared) (H : Hp) (E : XK) (c : Ctx), Room k (A.deeper (envOfC x (defScope st) s.heap.objs.size f cdv)) → Rm (cxOf CX0 P w K mg base N x (defScope st) f cdv A outer s H E).nox → PDSs (cxOf CX0 P w K mg base N x (defScope st) f cdv A outer s H E).nox c (defBody st) td)
    (law : ∀ M ds Q, dl M ds Q → td { nx := fun _ M' => Q .non M', rt := Q } (ds.map some ++ List.replicate (N.length - ps.length) none) M) : FS P w K mg base (k + 1) x st ps dl := by
  obtain ⟨f, fd, F, hm⟩ := D
  exact fs_mk F hm hb S (rd f) fun M ds Q _ h => law M ds Q h
theorem fs_no {P : Program} {w : PySem.World} {K : PySem.W.Frag} {mg : Str → Option Value} {base : Heap} {k : Nat} {x : Str} {st : Stmt} {ps : List Str} (D : Df K mg x st) (hb : BindsF x st ps) : FS P w K mg base k x st ps fun _ _ _ => False := by
  obtain ⟨f, fd, F, hm⟩ := D
  exact fs_none F hm hb
end L3
namespace L3.K55
open PySem PySem.Spec PyProof.Rows L2
/-- all defs stand where their names say -/
structure Dfs (K : PySem.W.Frag) (mg : Str → Option Value) : Prop where
  d_is_integer : Df K mg "is_integer" s_is_integer
  d_is_between : Df K mg "is_between" s_is_between
  d_is_count : Df K mg "is_count" s_is_count
  d_is_name : Df K mg "is_name" s_is_name
  d_is_row : Df K mg "is_row" s_is_row
  d_is_one_of : Df K mg "is_one_of" s_is_one_of
  d_is_rising : Df K mg "is_rising" s_is_rising
  d_is_worth : Df K mg "is_worth" s_is_worth
  d_are_houses_of_deal : Df K mg "are_houses_of_deal" s_are_houses_of_deal
  d_is_row_value : Df K mg "is_row_value" s_is_row_value
  d_need_row : Df K mg "need_row" s_need_row
  d_page_number : Df K mg "page_number" s_page_number
  d_is_page : Df K mg "is_page" s_is_page
  d_are_pages_value : Df K mg "are_pages_value" s_are_pages_value
  d_need_pages : Df K mg "need_pages" s_need_pages
  d_are_rows_value : Df K mg "are_rows_value" s_are_rows_value
  d_no_pages : Df K mg "no_pages" s_no_pages
  d_done_one : Df K mg "done_one" s_done_one
  d_done_all : Df K mg "done_all" s_done_all
  d_all_worths : Df K mg "all_worths" s_all_worths
  d_worths_of_rows : Df K mg "worths_of_rows" s_worths_of_rows
  d_need_many : Df K mg "need_many" s_need_many
  d_need_rows : Df K mg "need_rows" s_need_rows
  d_are_pages : Df K mg "are_pages" s_are_pages
  d_empty_pages : Df K mg "empty_pages" s_empty_pages
  d_worths_on : Df K mg "worths_on" s_worths_on
  d_done : Df K mg "done" s_done
  d_all_done : Df K mg "all_done" s_all_done
  d_worths_by : Df K mg "worths_by" s_worths_by
  d_law_deck : Df K mg "_law_deck" s_law_deck
  d_law_draw : Df K mg "_law_draw" s_law_draw
  d_law_pick : Df K mg "_law_pick" s_law_pick
  d_law_key : Df K mg "_law_key" s_law_key
  d_law_worth : Df K mg "_law_worth" s_law_worth
  d_law_deal : Df K mg "_law_deal" s_law_deal
  d_law_row : Df K mg "_law_row" s_law_row
  d_law_rows : Df K mg "_law_rows" s_law_rows
  d_law_by_name : Df K mg "_law_by_name" s_law_by_name
  d_law_place : Df K mg "_law_place" s_law_place
  d_law_told_pages : Df K mg "_law_told_pages" s_law_told_pages
  d_law_table : Df K mg "_law_table" s_law_table
  d_law_do : Df K mg "_law_do" s_law_do
  d_law_do_all : Df K mg "_law_do_all" s_law_do_all
  d_law_worths : Df K mg "_law_worths" s_law_worths
  d_law : Df K mg "law" s_law
theorem law_fs {P : Program} {w : PySem.World} {K : PySem.W.Frag} {mg : Str → Option Value} {base : Heap} (T : Tx K mg) (D : Dfs K mg) : FS P w K mg base 8 "law" s_law ["_law_script"] (spLaw) := by
  have G_is_integer : FS P w K mg base 1 "is_integer" s_is_integer ["thing"] (sp1 plP fun d => .bl (isI d)) := fs_df (k := 0) D.d_is_integer b_is_integer sc_is_integer (fun f cdv A outer s H E c hr r => rd_is_integer T  cdv A outer s H E c hr r) fun M ds Q h => dl_is_integer h
  have G_is_between : FS P w K mg base 2 "is_between" s_is_between ["thing", "least", "most"] (spBetween) := fs_df (k := 1) D.d_is_between b_is_between sc_is_between (fun f cdv A outer s H E c hr r => rd_is_between T (G_is_integer.mono (by decide)) cdv A outer s H E c hr r) fun M ds Q h => dl_is_between h
  have G_is_count : FS P w K mg base 2 "is_count" s_is_count ["thing"] (sp1 plP fun d => .bl (isC d)) := fs_df (k := 1) D.d_is_count b_is_count sc_is_count (fun f cdv A outer s H E c hr r => rd_is_count T (G_is_integer.mono (by decide)) cdv A outer s H E c hr r) fun M ds Q h => dl_is_count h
  have G_is_name : FS P w K mg base 1 "is_name" s_is_name ["thing"] (sp1 plP fun d => .bl (isW d)) := fs_df (k := 0) D.d_is_name b_is_name sc_is_name (fun f cdv A outer s H E c hr r => rd_is_name T  cdv A outer s H E c hr r) fun M ds Q h => dl_is_name h
  have G_is_row : FS P w K mg base 1 "is_row" s_is_row ["thing", "many"] (spRow) := fs_df (k := 0) D.d_is_row b_is_row sc_is_row (fun f cdv A outer s H E c hr r => rd_is_row T  cdv A outer s H E c hr r) fun M ds Q h => dl_is_row h
  have G_is_one_of : FS P w K mg base 1 "is_one_of" s_is_one_of ["thing", "words"] (spOne) := fs_df (k := 0) D.d_is_one_of b_is_one_of sc_is_one_of (fun f cdv A outer s H E c hr r => rd_is_one_of T  cdv A outer s H E c hr r) fun M ds Q h => dl_is_one_of h
  have G_is_rising : FS P w K mg base 1 "is_rising" s_is_rising ["some"] (spRis) := fs_df (k := 0) D.d_is_rising b_is_rising sc_is_rising (fun f cdv A outer s H E c hr r => rd_is_rising T  cdv A outer s H E c hr r) fun M ds Q h => dl_is_rising h
  have G_is_worth : FS P w K mg base 2 "is_worth" s_is_worth ["thing"] (yes fun d => ∃ o, d = oD o) := fs_df (k := 1) D.d_is_worth b_is_worth sc_is_worth (fun f cdv A outer s H E c hr r => rd_is_worth T (G_is_integer.mono (by decide)) cdv A outer s H E c hr r) fun M ds Q h => dl_is_worth h
  have G_are_houses_of_deal : FS P w K mg base 3 "are_houses_of_deal" s_are_houses_of_deal ["thing"] (yes hsP) := fs_df (k := 2) D.d_are_houses_of_deal b_are_houses_of_deal sc_are_houses_of_deal (fun f cdv A outer s H E c hr r => rd_are_houses_of_deal T (G_is_between.mono (by decide)) cdv A outer s H E c hr r) fun M ds Q h => dl_are_houses_of_deal h
  have G_is_row_value : FS P w K mg base 4 "is_row_value" s_is_row_value ["thing"] (yes rwP) := fs_df (k := 3) D.d_is_row_value b_is_row_value sc_is_row_value (fun f cdv A outer s H E c hr r => rd_is_row_value T (G_is_name.mono (by decide)) (G_is_worth.mono (by decide)) (G_is_one_of.mono (by decide)) (G_are_houses_of_deal.mono (by decide)) (G_is_count.mono (by decide)) cdv A outer s H E c hr r) fun M ds Q h => dl_is_row_value h
  have G_need_row : FS P w K mg base 5 "need_row" s_need_row ["row"] (spNeed rwP) := fs_df (k := 4) D.d_need_row b_need_row sc_need_row (fun f cdv A outer s H E c hr r => rd_need_row T (G_is_row_value.mono (by decide)) cdv A outer s H E c hr r) fun M ds Q h => dl_need_row h
  have G_page_number : FS P w K mg base 1 "page_number" s_page_number ["key", "many"] (spPl) := fs_df (k := 0) D.d_page_number b_page_number sc_page_number (fun f cdv A outer s H E c hr r => rd_page_number T  cdv A outer s H E c hr r) fun M ds Q h => dl_page_number h
  have G_is_page : FS P w K mg base 3 "is_page" s_is_page ["thing", "at", "many"] (spPg) := fs_df (k := 2) D.d_is_page b_is_page sc_is_page (fun f cdv A outer s H E c hr r => rd_is_page T (G_is_rising.mono (by decide)) (G_page_number.mono (by decide)) (G_is_row.mono (by decide)) (G_is_name.mono (by decide)) (G_is_integer.mono (by decide)) (G_is_count.mono (by decide)) cdv A outer s H E c hr r) fun M ds Q h => dl_is_page h
  have G_are_pages_value : FS P w K mg base 4 "are_pages_value" s_are_pages_value ["thing"] (sp1 plP fun d => .bl (pagesB d)) := fs_df (k := 3) D.d_are_pages_value b_are_pages_value sc_are_pages_value (fun f cdv A outer s H E c hr r => rd_are_pages_value T (G_is_page.mono (by decide)) cdv A outer s H E c hr r) fun M ds Q h => dl_are_pages_value h
  have G_need_pages : FS P w K mg base 5 "need_pages" s_need_pages ["pages"] (spNeed pgsP) := fs_df (k := 4) D.d_need_pages b_need_pages sc_need_pages (fun f cdv A outer s H E c hr r => rd_need_pages T (G_are_pages_value.mono (by decide)) cdv A outer s H E c hr r) fun M ds Q h => dl_need_pages h
  have G_are_rows_value : FS P w K mg base 5 "are_rows_value" s_are_rows_value ["thing"] (yes rwsT) := fs_df (k := 4) D.d_are_rows_value b_are_rows_value sc_are_rows_value (fun f cdv A outer s H E c hr r => rd_are_rows_value T (G_is_row_value.mono (by decide)) cdv A outer s H E c hr r) fun M ds Q h => dl_are_rows_value h
  have G_no_pages : FS P w K mg base 1 "no_pages" s_no_pages ["many"] (spNo) := fs_df (k := 0) D.d_no_pages b_no_pages sc_no_pages (fun f cdv A outer s H E c hr r => rd_no_pages T  cdv A outer s H E c hr r) fun M ds Q h => dl_no_pages h
  have G_done_one : FS P w K mg base 2 "done_one" s_done_one ["pages", "number", "row"] (spDone) := fs_df (k := 1) D.d_done_one b_done_one sc_done_one (fun f cdv A outer s H E c hr r => rd_done_one T (G_page_number.mono (by decide)) cdv A outer s H E c hr r) fun M ds Q h => dl_done_one h
  have G_done_all : FS P w K mg base 3 "done_all" s_done_all ["pages", "rows"] (spDoneAll) := fs_df (k := 2) D.d_done_all b_done_all sc_done_all (fun f cdv A outer s H E c hr r => rd_done_all T (G_done_one.mono (by decide)) cdv A outer s H E c hr r) fun M ds Q h => dl_done_all h
  have G_all_worths : FS P w K mg base 1 "all_worths" s_all_worths ["pages"] (spWorths) := fs_df (k := 0) D.d_all_worths b_all_worths sc_all_worths (fun f cdv A outer s H E c hr r => rd_all_worths T  cdv A outer s H E c hr r) fun M ds Q h => dl_all_worths h
  have G_worths_of_rows : FS P w K mg base 4 "worths_of_rows" s_worths_of_rows ["rows"] (spBy) := fs_df (k := 3) D.d_worths_of_rows b_worths_of_rows sc_worths_of_rows (fun f cdv A outer s H E c hr r => rd_worths_of_rows T (G_all_worths.mono (by decide)) (G_done_all.mono (by decide)) (G_no_pages.mono (by decide)) cdv A outer s H E c hr r) fun M ds Q h => dl_worths_of_rows h
  have G_need_many : FS P w K mg base 3 "need_many" s_need_many ["many"] (spNeed mnP) := fs_df (k := 2) D.d_need_many b_need_many sc_need_many (fun f cdv A outer s H E c hr r => rd_need_many T (G_is_between.mono (by decide)) cdv A outer s H E c hr r) fun M ds Q h => dl_need_many h
  have G_need_rows : FS P w K mg base 6 "need_rows" s_need_rows ["rows"] (spNeed rwsT) := fs_df (k := 5) D.d_need_rows b_need_rows sc_need_rows (fun f cdv A outer s H E c hr r => rd_need_rows T (G_are_rows_value.mono (by decide)) cdv A outer s H E c hr r) fun M ds Q h => dl_need_rows h
  have G_are_pages : FS P w K mg base 5 "are_pages" s_are_pages ["thing"] (sp1 plP fun d => .bl (pagesB d)) := fs_df (k := 4) D.d_are_pages b_are_pages sc_are_pages (fun f cdv A outer s H E c hr r => rd_are_pages T (G_are_pages_value.mono (by decide)) cdv A outer s H E c hr r) fun M ds Q h => dl_are_pages h
  have G_empty_pages : FS P w K mg base 4 "empty_pages" s_empty_pages ["many"] (spNo) := fs_df (k := 3) D.d_empty_pages b_empty_pages sc_empty_pages (fun f cdv A outer s H E c hr r => rd_empty_pages T (G_no_pages.mono (by decide)) (G_need_many.mono (by decide)) cdv A outer s H E c hr r) fun M ds Q h => dl_empty_pages h
  have G_worths_on : FS P w K mg base 6 "worths_on" s_worths_on ["pages"] (spWorths) := fs_df (k := 5) D.d_worths_on b_worths_on sc_worths_on (fun f cdv A outer s H E c hr r => rd_worths_on T (G_all_worths.mono (by decide)) (G_need_pages.mono (by decide)) cdv A outer s H E c hr r) fun M ds Q h => dl_worths_on h
  have G_done : FS P w K mg base 6 "done" s_done ["pages", "number", "row"] (spDone) := fs_df (k := 5) D.d_done b_done sc_done (fun f cdv A outer s H E c hr r => rd_done T (G_done_one.mono (by decide)) (G_need_row.mono (by decide)) (G_is_integer.mono (by decide)) (G_need_pages.mono (by decide)) cdv A outer s H E c hr r) fun M ds Q h => dl_done h
  have G_all_done : FS P w K mg base 7 "all_done" s_all_done ["pages", "rows"] (spDoneAll) := fs_df (k := 6) D.d_all_done b_all_done sc_all_done (fun f cdv A outer s H E c hr r => rd_all_done T (G_done_all.mono (by decide)) (G_need_rows.mono (by decide)) (G_need_pages.mono (by decide)) cdv A outer s H E c hr r) fun M ds Q h => dl_all_done h
  have G_worths_by : FS P w K mg base 7 "worths_by" s_worths_by ["rows"] (spBy) := fs_df (k := 6) D.d_worths_by b_worths_by sc_worths_by (fun f cdv A outer s H E c hr r => rd_worths_by T (G_worths_of_rows.mono (by decide)) (G_need_rows.mono (by decide)) cdv A outer s H E c hr r) fun M ds Q h => dl_worths_by h
  have G_law_deck : FS P w K mg base 1 "_law_deck" s_law_deck ["_law_script"] (spDeck) := fs_df (k := 0) D.d_law_deck b_law_deck sc_law_deck (fun f cdv A outer s H E c hr r => rd_law_deck T  cdv A outer s H E c hr r) fun M ds Q h => dl_law_deck h
  have G_law_draw : FS P w K mg base 1 "_law_draw" s_law_draw ["_law_deck_here", "_law_many"] (spDraw) := fs_df (k := 0) D.d_law_draw b_law_draw sc_law_draw (fun f cdv A outer s H E c hr r => rd_law_draw T  cdv A outer s H E c hr r) fun M ds Q h => dl_law_draw h
  have G_law_pick : FS P w K mg base 2 "_law_pick" s_law_pick ["_law_deck_here", "_law_some"] (spPick) := fs_df (k := 1) D.d_law_pick b_law_pick sc_law_pick (fun f cdv A outer s H E c hr r => rd_law_pick T (G_law_draw.mono (by decide)) cdv A outer s H E c hr r) fun M ds Q h => dl_law_pick h
  have G_law_key : FS P w K mg base 3 "_law_key" s_law_key ["_law_deck_here"] (spDrw 1 (· = []) keyP) := fs_df (k := 2) D.d_law_key b_law_key sc_law_key (fun f cdv A outer s H E c hr r => rd_law_key T (G_law_pick.mono (by decide)) cdv A outer s H E c hr r) fun M ds Q h => dl_law_key h
  have G_law_worth : FS P w K mg base 3 "_law_worth" s_law_worth ["_law_deck_here"] (spDrw 2 (· = []) wthP) := fs_df (k := 2) D.d_law_worth b_law_worth sc_law_worth (fun f cdv A outer s H E c hr r => rd_law_worth T (G_law_pick.mono (by decide)) (G_law_draw.mono (by decide)) cdv A outer s H E c hr r) fun M ds Q h => dl_law_worth h
  have G_law_deal : FS P w K mg base 3 "_law_deal" s_law_deal ["_law_deck_here"] (spDrw 2 (· = []) dlP) := fs_df (k := 2) D.d_law_deal b_law_deal sc_law_deal (fun f cdv A outer s H E c hr r => rd_law_deal T (G_law_pick.mono (by decide)) (G_law_draw.mono (by decide)) cdv A outer s H E c hr r) fun M ds Q h => dl_law_deal h
  have G_law_row : FS P w K mg base 4 "_law_row" s_law_row ["_law_deck_here"] (spDrw 8 (· = []) rwP) := fs_df (k := 3) D.d_law_row b_law_row sc_law_row (fun f cdv A outer s H E c hr r => rd_law_row T (G_law_pick.mono (by decide)) (G_law_worth.mono (by decide)) (G_law_key.mono (by decide)) (G_law_deal.mono (by decide)) (G_law_draw.mono (by decide)) cdv A outer s H E c hr r) fun M ds Q h => dl_law_row h
  have G_law_rows : FS P w K mg base 5 "_law_rows" s_law_rows ["_law_deck_here", "_law_most"] (spRows) := fs_df (k := 4) D.d_law_rows b_law_rows sc_law_rows (fun f cdv A outer s H E c hr r => rd_law_rows T (G_law_draw.mono (by decide)) (G_law_row.mono (by decide)) cdv A outer s H E c hr r) fun M ds Q h => dl_law_rows h
  have G_law_by_name : FS P w K mg base 2 "_law_by_name" s_law_by_name ["_law_deck_here"] (spDrw 1 (· = []) (fun d => ∃ b, d = .bl b)) := fs_df (k := 1) D.d_law_by_name b_law_by_name sc_law_by_name (fun f cdv A outer s H E c hr r => rd_law_by_name T (G_law_draw.mono (by decide)) cdv A outer s H E c hr r) fun M ds Q h => dl_law_by_name h
  have G_law_place : FS P w K mg base 1 "_law_place" s_law_place ["_law_key_here", "_law_many"] (spPl) := fs_df (k := 0) D.d_law_place b_law_place sc_law_place (fun f cdv A outer s H E c hr r => rd_law_place T  cdv A outer s H E c hr r) fun M ds Q h => dl_law_place h
  have G_law_told_pages : FS P w K mg base 1 "_law_told_pages" s_law_told_pages ["_law_table_here"] (spTold) := fs_df (k := 0) D.d_law_told_pages b_law_told_pages sc_law_told_pages (fun f cdv A outer s H E c hr r => rd_law_told_pages T  cdv A outer s H E c hr r) fun M ds Q h => dl_law_told_pages h
  have G_law_table : FS P w K mg base 1 "_law_table" s_law_table ["_law_many"] (spTable) := fs_df (k := 0) D.d_law_table b_law_table sc_law_table (fun f cdv A outer s H E c hr r => rd_law_table T  cdv A outer s H E c hr r) fun M ds Q h => dl_law_table h
  have G_law_do : FS P w K mg base 2 "_law_do" s_law_do ["_law_table_here", "_law_number", "_law_row_here"] (spDo) := fs_df (k := 1) D.d_law_do b_law_do sc_law_do (fun f cdv A outer s H E c hr r => rd_law_do T (G_law_place.mono (by decide)) cdv A outer s H E c hr r) fun M ds Q h => dl_law_do h
  have G_law_do_all : FS P w K mg base 3 "_law_do_all" s_law_do_all ["_law_table_here", "_law_rows_here"] (spDoAll) := fs_df (k := 2) D.d_law_do_all b_law_do_all sc_law_do_all (fun f cdv A outer s H E c hr r => rd_law_do_all T (G_law_do.mono (by decide)) cdv A outer s H E c hr r) fun M ds Q h => dl_law_do_all h
  have G_law_worths : FS P w K mg base 1 "_law_worths" s_law_worths ["_law_rows_here"] (spLW) := fs_df (k := 0) D.d_law_worths b_law_worths sc_law_worths (fun f cdv A outer s H E c hr r => rd_law_worths T  cdv A outer s H E c hr r) fun M ds Q h => dl_law_worths h
  have G_law : FS P w K mg base 8 "law" s_law ["_law_script"] (spLaw) := fs_df (k := 7) D.d_law b_law sc_law (fun f cdv A outer s H E c hr r => rd_law T (G_all_done.mono (by decide)) (G_law_told_pages.mono (by decide)) (G_law_do_all.mono (by decide)) (G_law_rows.mono (by decide)) (G_law_by_name.mono (by decide)) (G_done.mono (by decide)) (G_law_do.mono (by decide)) (G_law_pick.mono (by decide)) (G_law_draw.mono (by decide)) (G_law_row.mono (by decide)) (G_law_table.mono (by decide)) (G_worths_on.mono (by decide)) (G_worths_by.mono (by decide)) (G_law_worths.mono (by decide)) (G_are_pages.mono (by decide)) (G_empty_pages.mono (by decide)) (G_law_deck.mono (by decide)) cdv A outer s H E c hr r) fun M ds Q h => dl_law h
  exact G_law
end L3.K55
open PySem PySem.W PyProof.Rows in
set_option maxRecDepth 100000 in
set_option maxHeartbeats 0 in
theorem PySem.Challenge.cw_allshelves_k55_whole_rows_done_to_pages_holds : PySem.Challenge.rw_allshelves_k55_whole_rows_done_to_pages.Holds := by
  w_on; o_law; k_head; (case hw => w_witness2)
  k_fill
  refine L3.walk_fs (l := PySem.Challenge.rw_allshelves_k55_whole_rows_done_to_pages) (n := 63) (k := 8) (dl := L3.K55.spLaw) (st := L3.K55.s_law) (p := "_law_script") rfl (by decide) rfl ⟨rfl, by decide, by decide⟩ (fun w h Y => PySem.W.kIn_of Y) ?DF ?law
  case law => exact fun ns hl => ⟨ns, rfl, rfl, fun _ => rfl⟩
  case DF =>
    intro w mg h KX G base _ _
    refine' L3.K55.law_fs ⟨PySem.W.mg_none_of KX G ?a_n_all,
      PySem.W.mg_none_of KX G ?a_n_bool,
      PySem.W.mg_none_of KX G ?a_n_dict,
      PySem.W.mg_none_of KX G ?a_n_enumerate,
      PySem.W.mg_none_of KX G ?a_n_int,
      PySem.W.mg_none_of KX G ?a_n_isinstance,
      PySem.W.mg_none_of KX G ?a_n_len,
      PySem.W.mg_none_of KX G ?a_n_list,
      PySem.W.mg_none_of KX G ?a_n_max,
      PySem.W.mg_none_of KX G ?a_n_range,
      PySem.W.mg_none_of KX G ?a_n_repr,
      PySem.W.mg_none_of KX G ?a_n_set,
      PySem.W.mg_none_of KX G ?a_n_sorted,
      PySem.W.mg_none_of KX G ?a_n_str,
      PySem.W.mg_none_of KX G ?a_n_sum,
      PySem.W.mg_none_of KX G ?a_n_tuple,
      PySem.W.mg_none_of KX G ?a_n_zip,
      L3.gd_tup (PySem.W.mg_of KX G ?a_c_ENDS) ?l_c_ENDS ?e_c_ENDS ?z_c_ENDS,
      L3.gd_tup (PySem.W.mg_of KX G ?a_c_HEADS) ?l_c_HEADS ?e_c_HEADS ?z_c_HEADS,
      L3.gd_str (PySem.W.mg_of KX G ?a_c_LETTERS) ?e_c_LETTERS (by decide),
      L3.gd_int (PySem.W.mg_of KX G ?a_c_MOST_HOUSES) ?e_c_MOST_HOUSES,
      L3.gd_int (PySem.W.mg_of KX G ?a_c_MOST_LETTERS) ?e_c_MOST_LETTERS,
      L3.gd_int (PySem.W.mg_of KX G ?a_c_MOST_PAGES) ?e_c_MOST_PAGES,
      L3.gd_tup (PySem.W.mg_of KX G ?a_c_ROLES) ?l_c_ROLES ?e_c_ROLES ?z_c_ROLES⟩ ⟨L3.df_mk KX G ?a_is_integer ?l_is_integer ?c_is_integer ?k_is_integer,
      L3.df_mk KX G ?a_is_between ?l_is_between ?c_is_between ?k_is_between,
      L3.df_mk KX G ?a_is_count ?l_is_count ?c_is_count ?k_is_count,
      L3.df_mk KX G ?a_is_name ?l_is_name ?c_is_name ?k_is_name,
      L3.df_mk KX G ?a_is_row ?l_is_row ?c_is_row ?k_is_row,
      L3.df_mk KX G ?a_is_one_of ?l_is_one_of ?c_is_one_of ?k_is_one_of,
      L3.df_mk KX G ?a_is_rising ?l_is_rising ?c_is_rising ?k_is_rising,
      L3.df_mk KX G ?a_is_worth ?l_is_worth ?c_is_worth ?k_is_worth,
      L3.df_mk KX G ?a_are_houses_of_deal ?l_are_houses_of_deal ?c_are_houses_of_deal ?k_are_houses_of_deal,
      L3.df_mk KX G ?a_is_row_value ?l_is_row_value ?c_is_row_value ?k_is_row_value,
      L3.df_mk KX G ?a_need_row ?l_need_row ?c_need_row ?k_need_row,
      L3.df_mk KX G ?a_page_number ?l_page_number ?c_page_number ?k_page_number,
      L3.df_mk KX G ?a_is_page ?l_is_page ?c_is_page ?k_is_page,
      L3.df_mk KX G ?a_are_pages_value ?l_are_pages_value ?c_are_pages_value ?k_are_pages_value,
      L3.df_mk KX G ?a_need_pages ?l_need_pages ?c_need_pages ?k_need_pages,
      L3.df_mk KX G ?a_are_rows_value ?l_are_rows_value ?c_are_rows_value ?k_are_rows_value,
      L3.df_mk KX G ?a_no_pages ?l_no_pages ?c_no_pages ?k_no_pages,
      L3.df_mk KX G ?a_done_one ?l_done_one ?c_done_one ?k_done_one,
      L3.df_mk KX G ?a_done_all ?l_done_all ?c_done_all ?k_done_all,
      L3.df_mk KX G ?a_all_worths ?l_all_worths ?c_all_worths ?k_all_worths,
      L3.df_mk KX G ?a_worths_of_rows ?l_worths_of_rows ?c_worths_of_rows ?k_worths_of_rows,
      L3.df_mk KX G ?a_need_many ?l_need_many ?c_need_many ?k_need_many,
      L3.df_mk KX G ?a_need_rows ?l_need_rows ?c_need_rows ?k_need_rows,
      L3.df_mk KX G ?a_are_pages ?l_are_pages ?c_are_pages ?k_are_pages,
      L3.df_mk KX G ?a_empty_pages ?l_empty_pages ?c_empty_pages ?k_empty_pages,
      L3.df_mk KX G ?a_worths_on ?l_worths_on ?c_worths_on ?k_worths_on,
      L3.df_mk KX G ?a_done ?l_done ?c_done ?k_done,
      L3.df_mk KX G ?a_all_done ?l_all_done ?c_all_done ?k_all_done,
      L3.df_mk KX G ?a_worths_by ?l_worths_by ?c_worths_by ?k_worths_by,
      L3.df_mk KX G ?a_law_deck ?l_law_deck ?c_law_deck ?k_law_deck,
      L3.df_mk KX G ?a_law_draw ?l_law_draw ?c_law_draw ?k_law_draw,
      L3.df_mk KX G ?a_law_pick ?l_law_pick ?c_law_pick ?k_law_pick,
      L3.df_mk KX G ?a_law_key ?l_law_key ?c_law_key ?k_law_key,
      L3.df_mk KX G ?a_law_worth ?l_law_worth ?c_law_worth ?k_law_worth,
      L3.df_mk KX G ?a_law_deal ?l_law_deal ?c_law_deal ?k_law_deal,
      L3.df_mk KX G ?a_law_row ?l_law_row ?c_law_row ?k_law_row,
      L3.df_mk KX G ?a_law_rows ?l_law_rows ?c_law_rows ?k_law_rows,
      L3.df_mk KX G ?a_law_by_name ?l_law_by_name ?c_law_by_name ?k_law_by_name,
      L3.df_mk KX G ?a_law_place ?l_law_place ?c_law_place ?k_law_place,
      L3.df_mk KX G ?a_law_told_pages ?l_law_told_pages ?c_law_told_pages ?k_law_told_pages,
      L3.df_mk KX G ?a_law_table ?l_law_table ?c_law_table ?k_law_table,
      L3.df_mk KX G ?a_law_do ?l_law_do ?c_law_do ?k_law_do,
      L3.df_mk KX G ?a_law_do_all ?l_law_do_all ?c_law_do_all ?k_law_do_all,
      L3.df_mk KX G ?a_law_worths ?l_law_worths ?c_law_worths ?k_law_worths,
      L3.df_mk KX G ?a_law ?l_law ?c_law ?k_law⟩
    (case a_n_all => k_is)
    (case a_n_bool => k_is)
    (case a_n_dict => k_is)
    (case a_n_enumerate => k_is)
    (case a_n_int => k_is)
    (case a_n_isinstance => k_is)
    (case a_n_len => k_is)
    (case a_n_list => k_is)
    (case a_n_max => k_is)
    (case a_n_range => k_is)
    (case a_n_repr => k_is)
    (case a_n_set => k_is)
    (case a_n_sorted => k_is)
    (case a_n_str => k_is)
    (case a_n_sum => k_is)
    (case a_n_tuple => k_is)
    (case a_n_zip => k_is)
    (case a_c_ENDS => k_is)
    (case l_c_ENDS => k_is)
    (case e_c_ENDS => exact rfl)
    (case z_c_ENDS => decide)
    (case a_c_HEADS => k_is)
    (case l_c_HEADS => k_is)
    (case e_c_HEADS => exact rfl)
    (case z_c_HEADS => decide)
    (case a_c_LETTERS => k_is)
    (case e_c_LETTERS => exact ⟨_, rfl⟩)
    (case a_c_MOST_HOUSES => k_is)
    (case e_c_MOST_HOUSES => exact ⟨_, rfl⟩)
    (case a_c_MOST_LETTERS => k_is)
    (case e_c_MOST_LETTERS => exact ⟨_, rfl⟩)
    (case a_c_MOST_PAGES => k_is)
    (case e_c_MOST_PAGES => exact ⟨_, rfl⟩)
    (case a_c_ROLES => k_is)
    (case l_c_ROLES => k_is)
    (case e_c_ROLES => exact rfl)
    (case z_c_ROLES => decide)
    (case a_is_integer => k_is)
    (case l_is_integer => k_is)
    (case c_is_integer => k_is)
    (case k_is_integer => k_is)
    (case a_is_between => k_is)
    (case l_is_between => k_is)
    (case c_is_between => k_is)
    (case k_is_between => k_is)
    (case a_is_count => k_is)
    (case l_is_count => k_is)
    (case c_is_count => k_is)
    (case k_is_count => k_is)
    (case a_is_name => k_is)
    (case l_is_name => k_is)
    (case c_is_name => k_is)
    (case k_is_name => k_is)
    (case a_is_row => k_is)
    (case l_is_row => k_is)
    (case c_is_row => k_is)
    (case k_is_row => k_is)
    (case a_is_one_of => k_is)
    (case l_is_one_of => k_is)
    (case c_is_one_of => k_is)
    (case k_is_one_of => k_is)
    (case a_is_rising => k_is)
    (case l_is_rising => k_is)
    (case c_is_rising => k_is)
    (case k_is_rising => k_is)
    (case a_is_worth => k_is)
    (case l_is_worth => k_is)
    (case c_is_worth => k_is)
    (case k_is_worth => k_is)
    (case a_are_houses_of_deal => k_is)
    (case l_are_houses_of_deal => k_is)
    (case c_are_houses_of_deal => k_is)
    (case k_are_houses_of_deal => k_is)
    (case a_is_row_value => k_is)
    (case l_is_row_value => k_is)
    (case c_is_row_value => k_is)
    (case k_is_row_value => k_is)
    (case a_need_row => k_is)
    (case l_need_row => k_is)
    (case c_need_row => k_is)
    (case k_need_row => k_is)
    (case a_page_number => k_is)
    (case l_page_number => k_is)
    (case c_page_number => k_is)
    (case k_page_number => k_is)
    (case a_is_page => k_is)
    (case l_is_page => k_is)
    (case c_is_page => k_is)
    (case k_is_page => k_is)
    (case a_are_pages_value => k_is)
    (case l_are_pages_value => k_is)
    (case c_are_pages_value => k_is)
    (case k_are_pages_value => k_is)
    (case a_need_pages => k_is)
    (case l_need_pages => k_is)
    (case c_need_pages => k_is)
    (case k_need_pages => k_is)
    (case a_are_rows_value => k_is)
    (case l_are_rows_value => k_is)
    (case c_are_rows_value => k_is)
    (case k_are_rows_value => k_is)
    (case a_no_pages => k_is)
    (case l_no_pages => k_is)
    (case c_no_pages => k_is)
    (case k_no_pages => k_is)
    (case a_done_one => k_is)
    (case l_done_one => k_is)
    (case c_done_one => k_is)
    (case k_done_one => k_is)
    (case a_done_all => k_is)
    (case l_done_all => k_is)
    (case c_done_all => k_is)
    (case k_done_all => k_is)
    (case a_all_worths => k_is)
    (case l_all_worths => k_is)
    (case c_all_worths => k_is)
    (case k_all_worths => k_is)
    (case a_worths_of_rows => k_is)
    (case l_worths_of_rows => k_is)
    (case c_worths_of_rows => k_is)
    (case k_worths_of_rows => k_is)
    (case a_need_many => k_is)
    (case l_need_many => k_is)
    (case c_need_many => k_is)
    (case k_need_many => k_is)
    (case a_need_rows => k_is)
    (case l_need_rows => k_is)
    (case c_need_rows => k_is)
    (case k_need_rows => k_is)
    (case a_are_pages => k_is)
    (case l_are_pages => k_is)
    (case c_are_pages => k_is)
    (case k_are_pages => k_is)
    (case a_empty_pages => k_is)
    (case l_empty_pages => k_is)
    (case c_empty_pages => k_is)
    (case k_empty_pages => k_is)
    (case a_worths_on => k_is)
    (case l_worths_on => k_is)
    (case c_worths_on => k_is)
    (case k_worths_on => k_is)
    (case a_done => k_is)
    (case l_done => k_is)
    (case c_done => k_is)
    (case k_done => k_is)
    (case a_all_done => k_is)
    (case l_all_done => k_is)
    (case c_all_done => k_is)
    (case k_all_done => k_is)
    (case a_worths_by => k_is)
    (case l_worths_by => k_is)
    (case c_worths_by => k_is)
    (case k_worths_by => k_is)
    (case a_law_deck => k_is)
    (case l_law_deck => k_is)
    (case c_law_deck => k_is)
    (case k_law_deck => k_is)
    (case a_law_draw => k_is)
    (case l_law_draw => k_is)
    (case c_law_draw => k_is)
    (case k_law_draw => k_is)
    (case a_law_pick => k_is)
    (case l_law_pick => k_is)
    (case c_law_pick => k_is)
    (case k_law_pick => k_is)
    (case a_law_key => k_is)
    (case l_law_key => k_is)
    (case c_law_key => k_is)
    (case k_law_key => k_is)
    (case a_law_worth => k_is)
    (case l_law_worth => k_is)
    (case c_law_worth => k_is)
    (case k_law_worth => k_is)
    (case a_law_deal => k_is)
    (case l_law_deal => k_is)
    (case c_law_deal => k_is)
    (case k_law_deal => k_is)
    (case a_law_row => k_is)
    (case l_law_row => k_is)
    (case c_law_row => k_is)
    (case k_law_row => k_is)
    (case a_law_rows => k_is)
    (case l_law_rows => k_is)
    (case c_law_rows => k_is)
    (case k_law_rows => k_is)
    (case a_law_by_name => k_is)
    (case l_law_by_name => k_is)
    (case c_law_by_name => k_is)
    (case k_law_by_name => k_is)
    (case a_law_place => k_is)
    (case l_law_place => k_is)
    (case c_law_place => k_is)
    (case k_law_place => k_is)
    (case a_law_told_pages => k_is)
    (case l_law_told_pages => k_is)
    (case c_law_told_pages => k_is)
    (case k_law_told_pages => k_is)
    (case a_law_table => k_is)
    (case l_law_table => k_is)
    (case c_law_table => k_is)
    (case k_law_table => k_is)
    (case a_law_do => k_is)
    (case l_law_do => k_is)
    (case c_law_do => k_is)
    (case k_law_do => k_is)
    (case a_law_do_all => k_is)
    (case l_law_do_all => k_is)
    (case c_law_do_all => k_is)
    (case k_law_do_all => k_is)
    (case a_law_worths => k_is)
    (case l_law_worths => k_is)
    (case c_law_worths => k_is)
    (case k_law_worths => k_is)
    (case a_law => k_is)
    (case l_law => k_is)
    (case c_law => k_is)
    (case k_law => k_is)
