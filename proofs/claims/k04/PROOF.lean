import PyProof.Rows.All
import Wide.All
import OpenK.AllK
import Wide.FinOn
import KE.KStateDown
import Lean
import HandS.ForMost
import HandS.ForExc
import HandS.Wide
import HandS.CallSlots
import HandS.IsInst
import HandS.Flow
import HandS.Style
import HandS.Defaults
import HandS.Deep
import HandS.More
import HandS.WordsExc
import HandS.Head0
import HandS.Head1
import HandS.Head2
import HandS.HeadEnd
import HandS.HeadHook1
import HandS.HeadHook2
import HandS.ExcInit
import HandS.ExcValue
import HandS.ExcField
import HandS.TryOnly
import KE.KExcIs
import HandS.Conv
import HandS.SortInts
import HandS.Iter
import HandS.TupSets
import HandS.Zip
import KE.SortData
import PySem.Challenge.RW_nearlands_k04_classes_of_refusals
set_option Elab.async false
set_option linter.all false
set_option maxRecDepth 100000
set_option maxHeartbeats 4000000
namespace DL
open PySem PySem.Spec PyProof.Rows L2

/-! data: values without addresses -/
inductive D where
  | non | bl (b : Bool) | int (i : Int) | str (x : Str) | lst (ds : List D) | tup (ds : List D) | dct (kvs : List (Key × D)) | exc (c : Str) (ds : List D) | dtt (kvs : List (List Key × D))

abbrev AS := Addr → Prop
def none0 : Hp := fun _ => Option.none
/-- a list, a tuple to be read at a; not one of W -/
def LW (K : PySem.W.Frag) (W : AS) (H : Hp) (a : Addr) (xs : List V) : Prop := (Rd H a (.lst xs) ∧ ¬ W a) ∨ SqL K none0 a xs
/-- a tuple: never changed -/
def TW (H : Hp) (a : Addr) (xs : List V) : Prop := H a = some (.tup xs)
structure Step (W : AS) (H : Hp) (W' : AS) (H' : Hp) : Prop where
  keep : ∀ a o, H a = some o → ¬ W a → H' a = some o
  new : ∀ a, W' a → W a ∨ H a = Option.none
  live : ∀ a, H' a = Option.none → H a = Option.none
  tups : ∀ a xs, H a = some (.tup xs) → H' a = some (.tup xs)
theorem Step.refl {W : AS} {H : Hp} : Step W H W H := ⟨fun _ _ h _ => h, fun _ h => .inl h, fun _ h => h, fun _ _ h => h⟩
theorem Step.trans {W W' W'' : AS} {H H' H'' : Hp} (a : Step W H W' H') (b : Step W' H' W'' H'') : Step W H W'' H'' where
  keep := fun c o h n => b.keep c o (a.keep c o h n) fun z => (a.new c z).elim n fun z => by rw [z] at h; cases h
  new := fun c z => by
    rcases b.new c z with z | z
    · exact a.new c z
    · cases q : H c with
      | none => exact .inr rfl
      | some o =>
        by_cases n : W c
        · exact .inl n
        · have := a.keep c o q n
          rw [z] at this; cases this
  live := fun c z => a.live c (b.live c z)
  tups := fun c xs h => b.tups c xs (a.tups c xs h)
theorem Step.same {W : AS} {H H' : Hp} (s : Same H H') : Step W H W H' := ⟨fun a o h _ => s a o h, fun _ h => .inl h, fun a h => s.free h, fun a xs h => s a _ h⟩
theorem same_new {H : Hp} {p : Addr} {o : HO} (h : H p = Option.none) : Same H (upd H p o) := fun b x e => by
  rw [upd_ne (ne_of_none e h)]; exact e
theorem rd_none {a : Addr} {u : HO} (h : Rd none0 a u) : False := by
  rcases h with h | ⟨_, h⟩ <;> cases h
theorem LW.sq {K : PySem.W.Frag} {W : AS} {H : Hp} {a : Addr} {xs : List V} (h : LW K W H a xs) : SqL K H a xs := by
  rcases h with ⟨h, _⟩ | h | h
  · exact .inl h
  · exact (rd_none h).elim
  · exact .inr h
theorem TW.sq {K : PySem.W.Frag} {H : Hp} {a : Addr} {xs : List V} (h : TW H a xs) : SqT K H a xs := SqT.of h
theorem rd_step {W W' : AS} {H H' : Hp} {a : Addr} {u : HO} (s : Step W H W' H') (h : Rd H a u) (n : ¬ W a) : Rd H' a u ∧ ¬ W' a := by
  rcases h with h | ⟨o, h⟩
  · exact ⟨.inl (s.keep a _ h n), fun z => (s.new a z).elim n fun z => by rw [z] at h; cases h⟩
  · exact ⟨.inr ⟨o, s.keep a _ h n⟩, fun z => (s.new a z).elim n fun z => by rw [z] at h; cases h⟩
theorem LW.step {K : PySem.W.Frag} {W W' : AS} {H H' : Hp} {a : Addr} {xs : List V} (s : Step W H W' H') (h : LW K W H a xs) : LW K W' H' a xs := by
  rcases h with ⟨h, n⟩ | h
  · exact .inl (rd_step s h n)
  · exact .inr h
theorem TW.step {W W' : AS} {H H' : Hp} {a : Addr} {xs : List V} (s : Step W H W' H') (h : TW H a xs) : TW H' a xs := s.tups a xs h

/-- a caught exception: its class, its own dict -/
def ExK (cls : Value) (d : Option Addr) (a : Addr) : HO := .ext fun h => ∃ (oe : Obj) (vs : Array Value), h.get? a = some oe ∧ Zc cls d oe ∧ oe.data = .fields vs
theorem exK_ok {P : Program} {w : World} {H : Hp} {h : Heap} {a : Addr} {cls : Value} {d : Option Addr} {oe : Obj} {vs : Array Value} (e : h.get? a = some oe) (z : Zc cls d oe) (q : oe.data = .fields vs) : ObjOk P w H h a (ExK cls d a) :=
  ⟨⟨oe, vs, e, z, q⟩, ⟨oe, e⟩, fun _ _ ⟨o, v, r, y⟩ k => ⟨o, v, k o r, y⟩⟩
mutual
inductive Rep (K : PySem.W.Frag) (W : AS) (H : Hp) : V → D → Prop
  | non : Rep K W H .non .non
  | bl (b : Bool) : Rep K W H (.bl b) (.bl b)
  | int (i : Int) : Rep K W H (.int i) (.int i)
  | str (x : Str) : Rep K W H (.str x) (.str x)
  | lst {a : Addr} {xs : List V} {ds : List D} : LW K W H a xs → Reps K W H xs ds → Rep K W H (.ref a) (.lst ds)
  | tup {a : Addr} {xs : List V} {ds : List D} : TW H a xs → Reps K W H xs ds → Rep K W H (.ref a) (.tup ds)
  | dct {a : Addr} {es : List (Key × V)} {kvs : List (Key × D)} : H a = some (.dK es) → ¬ W a → RepKV K W H es kvs → Rep K W H (.ref a) (.dct kvs)
  | exc0 {a : Addr} {c : Str} : H a = some (ExK (.ref (He.ga K c)) Option.none a) → ¬ W a → Rep K W H (.ref a) (.exc c [])
  | exc1 {a p : Addr} {c : Str} {v : V} {d : D} : H a = some (ExK (.ref (He.ga K c)) (some p) a) → ¬ W a → H p = some (.xd [("at", v)]) → ¬ W p → Rep K W H v d → Rep K W H (.ref a) (.exc c [d])
  | dtt {a : Addr} {es : List (List Key × V)} {kvs : List (List Key × D)} : H a = some (.dT es) → ¬ W a → RepTV K W H es kvs → Rep K W H (.ref a) (.dtt kvs)
inductive Reps (K : PySem.W.Frag) (W : AS) (H : Hp) : List V → List D → Prop
  | nil : Reps K W H [] []
  | cons {v : V} {d : D} {vs : List V} {ds : List D} : Rep K W H v d → Reps K W H vs ds → Reps K W H (v :: vs) (d :: ds)
inductive RepKV (K : PySem.W.Frag) (W : AS) (H : Hp) : List (Key × V) → List (Key × D) → Prop
  | nil : RepKV K W H [] []
  | cons {k : Key} {v : V} {d : D} {vs : List (Key × V)} {ds : List (Key × D)} : Rep K W H v d → RepKV K W H vs ds → RepKV K W H ((k, v) :: vs) ((k, d) :: ds)
inductive RepTV (K : PySem.W.Frag) (W : AS) (H : Hp) : List (List Key × V) → List (List Key × D) → Prop
  | nil : RepTV K W H [] []
  | cons {k : List Key} {v : V} {d : D} {vs : List (List Key × V)} {ds : List (List Key × D)} : Rep K W H v d → RepTV K W H vs ds → RepTV K W H ((k, v) :: vs) ((k, d) :: ds)
end
section
variable {K : PySem.W.Frag} {W W' : AS} {H H' : Hp}
theorem Rep.step (s : Step W H W' H') {v : V} {d : D} (h : Rep K W H v d) : Rep K W' H' v d :=
  @Rep.rec K W H (fun v d _ => Rep K W' H' v d) (fun v d _ => Reps K W' H' v d) (fun v d _ => RepKV K W' H' v d) (fun v d _ => RepTV K W' H' v d)
    .non .bl .int .str (fun l _ r => .lst (l.step s) r) (fun l _ r => .tup (l.step s) r)
    (fun {a es kvs} h n _ r => .dct (s.keep a _ h n) (fun z => (s.new a z).elim n fun z => by rw [z] at h; cases h) r)
    (fun {a c} h n => .exc0 (s.keep a _ h n) (fun z => (s.new a z).elim n fun z => by rw [z] at h; cases h))
    (fun {a p c v d} h n h2 n2 _ r => .exc1 (s.keep a _ h n) (fun z => (s.new a z).elim n fun z => by rw [z] at h; cases h) (s.keep p _ h2 n2) (fun z => (s.new p z).elim n2 fun z => by rw [z] at h2; cases h2) r)
    (fun {a es kvs} h n _ r => .dtt (s.keep a _ h n) (fun z => (s.new a z).elim n fun z => by rw [z] at h; cases h) r)
    .nil (fun _ _ a b => .cons a b) .nil (fun _ _ a b => .cons a b) .nil (fun _ _ a b => .cons a b) v d h
theorem Reps.step (s : Step W H W' H') : ∀ {vs : List V} {ds : List D}, Reps K W H vs ds → Reps K W' H' vs ds
  | [], _, h => by cases h; exact .nil
  | _ :: _, _, h => by cases h with | cons a b => exact .cons (a.step s) (b.step s)
theorem RepKV.step (s : Step W H W' H') : ∀ {vs : List (Key × V)} {ds : List (Key × D)}, RepKV K W H vs ds → RepKV K W' H' vs ds
  | [], _, h => by cases h; exact .nil
  | _ :: _, _, h => by cases h with | cons a b => exact .cons (a.step s) (b.step s)
theorem RepTV.step (s : Step W H W' H') : ∀ {vs : List (List Key × V)} {ds : List (List Key × D)}, RepTV K W H vs ds → RepTV K W' H' vs ds
  | [], _, h => by cases h; exact .nil
  | _ :: _, _, h => by cases h with | cons a b => exact .cons (a.step s) (b.step s)
theorem Reps.length : ∀ {vs : List V} {ds : List D}, Reps K W H vs ds → vs.length = ds.length
  | [], _, h => by cases h; rfl
  | _ :: _, _, h => by cases h with | cons _ b => exact congrArg (· + 1) b.length
theorem Reps.get : ∀ {vs : List V} {ds : List D} {i : Nat} {d : D}, Reps K W H vs ds → ds[i]? = some d → ∃ v, vs[i]? = some v ∧ Rep K W H v d
  | [], _, _, _, h, e => by cases h; simp at e
  | _ :: _, _, 0, _, h, e => by
    cases h with
    | cons a b => simp at e; subst e; exact ⟨_, rfl, a⟩
  | _ :: _, _, i + 1, _, h, e => by
    cases h with
    | cons a b =>
      obtain ⟨v, h1, h2⟩ := Reps.get (i := i) b (by simpa using e)
      exact ⟨v, by simpa using h1, h2⟩
theorem Reps.getV : ∀ {vs : List V} {ds : List D} {i : Nat} {v : V}, Reps K W H vs ds → vs[i]? = some v → ∃ d, ds[i]? = some d ∧ Rep K W H v d
  | [], _, _, _, h, e => by simp at e
  | _ :: _, _, 0, _, h, e => by
    cases h with
    | cons a b => simp at e; subst e; exact ⟨_, rfl, a⟩
  | _ :: _, _, i + 1, _, h, e => by
    cases h with
    | cons a b =>
      obtain ⟨v, h1, h2⟩ := Reps.getV (i := i) b (by simpa using e)
      exact ⟨v, by simpa using h1, h2⟩
theorem Reps.append : ∀ {vs ws : List V} {ds es : List D}, Reps K W H vs ds → Reps K W H ws es → Reps K W H (vs ++ ws) (ds ++ es)
  | [], _, _, _, h, r => by cases h; exact r
  | _ :: _, _, _, _, h, r => by cases h with | cons a b => exact .cons a (b.append r)
theorem Reps.take : ∀ {vs : List V} {ds : List D} (n : Nat), Reps K W H vs ds → Reps K W H (vs.take n) (ds.take n)
  | _, _, 0, _ => .nil
  | [], _, _ + 1, h => by cases h; exact .nil
  | _ :: _, _, n + 1, h => by cases h with | cons a b => exact .cons a (b.take n)
theorem Reps.drop : ∀ {vs : List V} {ds : List D} (n : Nat), Reps K W H vs ds → Reps K W H (vs.drop n) (ds.drop n)
  | _, _, 0, h => h
  | [], _, _ + 1, h => by cases h; exact .nil
  | _ :: _, _, n + 1, h => by cases h with | cons a b => exact b.drop n
theorem Reps.set {v : V} {d : D} (r : Rep K W H v d) : ∀ {vs : List V} {ds : List D} (n : Nat), Reps K W H vs ds → Reps K W H (vs.set n v) (ds.set n d)
  | [], _, _, h => by cases h; exact .nil
  | _ :: _, _, 0, h => by cases h with | cons a b => exact .cons r b
  | _ :: _, _, n + 1, h => by cases h with | cons a b => exact .cons a (b.set r n)
theorem Reps.reverse : ∀ {vs : List V} {ds : List D}, Reps K W H vs ds → Reps K W H vs.reverse ds.reverse
  | [], _, h => by cases h; exact .nil
  | _ :: _, _, h => by
    cases h with
    | cons a b => rw [List.reverse_cons, List.reverse_cons]; exact b.reverse.append (.cons a .nil)
theorem Rep.int' {v : V} {i : Int} (h : Rep K W H v (.int i)) : v = .int i := by cases h; rfl
theorem Rep.bl' {v : V} {i : Bool} (h : Rep K W H v (.bl i)) : v = .bl i := by cases h; rfl
theorem Rep.str' {v : V} {i : Str} (h : Rep K W H v (.str i)) : v = .str i := by cases h; rfl
theorem Reps.ints : ∀ {vs : List V} {ns : List Int}, Reps K W H vs (ns.map D.int) → vs = ns.map V.int
  | [], [], _ => rfl
  | [], _ :: _, h => by cases h
  | _ :: _, [], h => by cases h
  | v :: vs, n :: ns, h => by
    cases h with
    | cons a b => rw [a.int', Reps.ints b]; rfl
theorem Reps.ofInts : ∀ (ns : List Int), Reps K W H (ns.map V.int) (ns.map D.int)
  | [] => .nil
  | n :: ns => .cons (.int n) (Reps.ofInts ns)
end

/-- an owned thing: a list or a dict that stands alone at a -/
def Own (K : PySem.W.Frag) (W : AS) (H : Hp) (a : Addr) : D → Prop
  | .lst ds => ∃ xs, H a = some (.lst xs) ∧ Reps K W H xs ds
  | .dct kvs => ∃ es, H a = some (.dK es) ∧ RepKV K W H es kvs
  | .dtt kvs => ∃ es, H a = some (.dT es) ∧ RepTV K W H es kvs
  | _ => False
theorem Own.some {K : PySem.W.Frag} {W : AS} {H : Hp} {a : Addr} {d : D} (h : Own K W H a d) : ∃ o, H a = some o := by
  cases d <;> first | exact h.elim | (obtain ⟨xs, h, _⟩ := h; exact ⟨_, h⟩)
theorem Own.notTup {K : PySem.W.Frag} {W : AS} {H : Hp} {a : Addr} {d : D} (h : Own K W H a d) (xs : List V) (e : H a = Option.some (HO.tup xs)) : False := by
  cases d <;> first | exact h | (obtain ⟨ys, h, _⟩ := h; rw [e] at h; cases h)
theorem Own.step {K : PySem.W.Frag} {W W' : AS} {H H' : Hp} {a : Addr} {d : D} (s : Step W H W' H') (e : H' a = H a) (h : Own K W H a d) : Own K W' H' a d := by
  cases d with
  | lst ds => obtain ⟨xs, h, r⟩ := h; exact ⟨xs, e.trans h, r.step s⟩
  | dct ds => obtain ⟨xs, h, r⟩ := h; exact ⟨xs, e.trans h, r.step s⟩
  | dtt ds => obtain ⟨xs, h, r⟩ := h; exact ⟨xs, e.trans h, r.step s⟩
  | _ => exact h.elim
/-- owned, and not of W: it may be read by others -/
theorem Own.rep {K : PySem.W.Frag} {W : AS} {H : Hp} {a : Addr} {d : D} (h : Own K W H a d) (n : ¬ W a) : Rep K W H (.ref a) d := by
  cases d with
  | lst ds => obtain ⟨xs, h, r⟩ := h; exact .lst (.inl ⟨.inl h, n⟩) r
  | dct ds => obtain ⟨xs, h, r⟩ := h; exact .dct h n r
  | dtt ds => obtain ⟨xs, h, r⟩ := h; exact .dtt h n r
  | _ => exact h.elim

/-- a slot: unknown, a value, an owned thing of this def, a thing of the caller that is changed here -/
inductive S where
  | no | v (d : D) | own (d : D) | lent (d : D)
abbrev DEnv := List S
structure Bd where
  W0 : AS
  H0 : Hp
  M0 : AS
  w0 : ∀ a, W0 a → ∃ o, H0 a = some o
  m0 : ∀ a, M0 a → W0 a
structure ER (K : PySem.W.Frag) (B : Bd) (W : AS) (σ : L2.St) (H : Hp) (δ : DEnv) : Prop where
  len : σ.length = δ.length
  keep : ∀ a o, B.H0 a = some o → ¬ B.M0 a → H a = some o
  sup : ∀ a, B.W0 a → W a
  trk : ∀ a, W a → ∃ o, H a = some o
  val : ∀ (i : Nat) (d : D), δ[i]? = some (.v d) → ∃ v, σ[i]? = some (some v) ∧ Rep K W H v d
  own : ∀ (i : Nat) (d : D), δ[i]? = some (.own d) → ∃ a, σ[i]? = some (some (.ref a)) ∧ W a ∧ B.H0 a = Option.none ∧ Own K W H a d
  lent : ∀ (i : Nat) (d : D), δ[i]? = some (.lent d) → ∃ a, σ[i]? = some (some (.ref a)) ∧ B.M0 a ∧ Own K W H a d
  dst : ∀ (i j : Nat) (a : Addr) (d e : D), (δ[i]? = some (.own d) ∨ δ[i]? = some (.lent d)) → (δ[j]? = some (.own e) ∨ δ[j]? = some (.lent e)) → σ[i]? = some (some (.ref a)) → σ[j]? = some (some (.ref a)) → i = j
section
variable {K : PySem.W.Frag} {B : Bd} {W W' : AS} {σ : L2.St} {H H' : Hp} {δ : DEnv}
/-- the heap grows -/
theorem ER.grow (e : ER K B W σ H δ) (s : Same H H') : ER K B W σ H' δ where
  len := e.len
  keep := fun a o h n => s a o (e.keep a o h n)
  sup := e.sup
  trk := fun a h => let ⟨o, q⟩ := e.trk a h; ⟨o, s a o q⟩
  val := fun i d h => let ⟨v, q, r⟩ := e.val i d h; ⟨v, q, r.step (.same s)⟩
  own := fun i d h => by
    obtain ⟨a, q, w, n, o⟩ := e.own i d h
    obtain ⟨u, hu⟩ := o.some
    exact ⟨a, q, w, n, o.step (.same s) ((s a u hu).trans hu.symm)⟩
  lent := fun i d h => by
    obtain ⟨a, q, w, o⟩ := e.lent i d h
    obtain ⟨u, hu⟩ := o.some
    exact ⟨a, q, w, o.step (.same s) ((s a u hu).trans hu.symm)⟩
  dst := e.dst
/-- a plain value is stored -/
theorem ER.set (e : ER K B W σ H δ) {i : Nat} {v : V} {d : D} (r : Rep K W H v d) : ER K B W (σ.set i (some v)) H (δ.set i (.v d)) where
  len := by simp [e.len]
  keep := e.keep
  sup := e.sup
  trk := e.trk
  val := fun j d' h => by
    by_cases hj : i = j
    · subst hj
      rw [List.getElem?_set] at h ⊢
      rw [e.len]
      simp only [if_true] at h ⊢
      split at h
      · cases h; rename_i hl; rw [if_pos hl]; exact ⟨v, rfl, r⟩
      · cases h
    · rw [List.getElem?_set_ne hj] at h ⊢
      exact e.val j d' h
  own := fun j d' h => by
    by_cases hj : i = j
    · subst hj
      rw [List.getElem?_set] at h
      simp only [if_true] at h
      split at h <;> cases h
    · rw [List.getElem?_set_ne hj] at h ⊢
      exact e.own j d' h
  lent := fun j d' h => by
    by_cases hj : i = j
    · subst hj
      rw [List.getElem?_set] at h
      simp only [if_true] at h
      split at h <;> cases h
    · rw [List.getElem?_set_ne hj] at h ⊢
      exact e.lent j d' h
  dst := fun j k a d1 d2 h1 h2 h3 h4 => by
    have nj : i ≠ j := fun z => by
      subst z
      rw [List.getElem?_set] at h1
      simp only [if_true] at h1
      rcases h1 with h1 | h1 <;> split at h1 <;> cases h1
    have nk : i ≠ k := fun z => by
      subst z
      rw [List.getElem?_set] at h2
      simp only [if_true] at h2
      rcases h2 with h2 | h2 <;> split at h2 <;> cases h2
    rw [List.getElem?_set_ne nj] at h1 h3
    rw [List.getElem?_set_ne nk] at h2 h4
    exact e.dst j k a d1 d2 h1 h2 h3 h4
/-- a slot is forgotten -/
theorem ER.lose (e : ER K B W σ H δ) (i : Nat) {x : Option V} : ER K B W (σ.set i x) H (δ.set i .no) where
  len := by simp [e.len]
  keep := e.keep
  sup := e.sup
  trk := e.trk
  val := fun j d' h => by
    by_cases hj : i = j
    · subst hj
      rw [List.getElem?_set] at h
      simp only [if_true] at h
      split at h <;> cases h
    · rw [List.getElem?_set_ne hj] at h ⊢
      exact e.val j d' h
  own := fun j d' h => by
    by_cases hj : i = j
    · subst hj
      rw [List.getElem?_set] at h
      simp only [if_true] at h
      split at h <;> cases h
    · rw [List.getElem?_set_ne hj] at h ⊢
      exact e.own j d' h
  lent := fun j d' h => by
    by_cases hj : i = j
    · subst hj
      rw [List.getElem?_set] at h
      simp only [if_true] at h
      split at h <;> cases h
    · rw [List.getElem?_set_ne hj] at h ⊢
      exact e.lent j d' h
  dst := fun j k a d1 d2 h1 h2 h3 h4 => by
    have nj : i ≠ j := fun z => by
      subst z
      rw [List.getElem?_set] at h1
      simp only [if_true] at h1
      rcases h1 with h1 | h1 <;> split at h1 <;> cases h1
    have nk : i ≠ k := fun z => by
      subst z
      rw [List.getElem?_set] at h2
      simp only [if_true] at h2
      rcases h2 with h2 | h2 <;> split at h2 <;> cases h2
    rw [List.getElem?_set_ne nj] at h1 h3
    rw [List.getElem?_set_ne nk] at h2 h4
    exact e.dst j k a d1 d2 h1 h2 h3 h4
/-- W with a fresh address more -/
def addW (W : AS) (a : Addr) : AS := fun b => W b ∨ b = a
def subW (W : AS) (a : Addr) : AS := fun b => W b ∧ b ≠ a
theorem Step.sub {a : Addr} : Step W H (subW W a) H := ⟨fun _ _ h _ => h, fun _ h => .inl h.1, fun _ h => h, fun _ _ h => h⟩
end
end DL

namespace DL
open PySem PySem.Spec PyProof.Rows L2

/-- a refusal: its class, what its field at holds -/
structure XD where
  cls : Str
  at_ : Option D
def XR (K : PySem.W.Frag) (W : AS) (H : Hp) (cls : Value) (dd : Option Addr) (x : XD) : Prop :=
  cls = .ref (He.ga K x.cls) ∧ match x.at_ with
    | Option.none => dd = Option.none
    | some d => ∃ p v, dd = some p ∧ H p = some (.xd [("at", v)]) ∧ ¬ W p ∧ Rep K W H v d
abbrev XC := XD → DEnv → Prop
abbrev DE := DEnv → (D → DEnv → Prop) → XC → Prop
abbrev DT := DEnv → (Bool → DEnv → Prop) → XC → Prop
abbrev DA := DEnv → (List D → DEnv → Prop) → XC → Prop
structure DEnds where
  nx : DEnv → Prop
  rt : D → DEnv → Prop
  bk : DEnv → Prop
  ct : DEnv → Prop
  xx : XC
abbrev DS := DEnds → DEnv → Prop
def Mono {α : Type} (f : DEnv → (α → DEnv → Prop) → XC → Prop) : Prop := ∀ δ (Q Q' : α → DEnv → Prop) (E E' : XC), (∀ d δ', Q d δ' → Q' d δ') → (∀ x δ', E x δ' → E' x δ') → f δ Q E → f δ Q' E'
structure DLe (E E' : DEnds) : Prop where
  nx : ∀ δ, E.nx δ → E'.nx δ
  rt : ∀ d δ, E.rt d δ → E'.rt d δ
  bk : ∀ δ, E.bk δ → E'.bk δ
  ct : ∀ δ, E.ct δ → E'.ct δ
  xx : ∀ x δ, E.xx x δ → E'.xx x δ
def MonoS (g : DS) : Prop := ∀ E E' δ, DLe E E' → g E δ → g E' δ

section
variable (K : PySem.W.Frag) (B : Bd) (wx : WX) (fr : Bool)
/-- what is wanted of a value behind -/
def Pst {α β : Type} (R : AS → Hp → α → β → Prop) (σ : L2.St) (W : AS) (H : Hp) (Q : α → Hp → Prop) (d : β) (δ' : DEnv) : Prop :=
  ∀ v H' W', Step W H W' H' → ER K B W' σ H' δ' → R W' H' v d → Q v H'
def Xst (σ : L2.St) (W : AS) (H : Hp) (x : XD) (δ' : DEnv) : Prop :=
  ∀ cls dd H' W', Step W H W' H' → ER K B W' σ H' δ' → XR K W' H' cls dd x → wx cls dd σ H'
def liftE (f : DE) : TE := fun σ H Q => ∃ W δ, ER K B W σ H δ ∧ f δ (Pst K B (Rep K) σ W H Q) (Xst K B wx σ W H)
def liftT (f : DT) : TT := fun σ H Q => ∃ W δ, ER K B W σ H δ ∧ f δ (Pst K B (fun _ _ a b => a = b) σ W H Q) (Xst K B wx σ W H)
def liftA (f : DA) : TA := fun σ H Q => ∃ W δ, ER K B W σ H δ ∧ f δ (Pst K B (Reps K) σ W H Q) (Xst K B wx σ W H)
/-- fresh: a new owned thing, relative to the heap H -/
def Fsh (H0 : Hp) (W' : AS) (H' : Hp) (v : V) (d : D) : Prop := ∃ a, v = .ref a ∧ H0 a = Option.none ∧ Own K W' H' a d
/-- no slot holds the thing at a as its own -/
def NoSlot (σ : L2.St) (δ : DEnv) (a : Addr) : Prop := ∀ (j : Nat) (e : D), (δ[j]? = some (.own e) ∨ δ[j]? = some (.lent e)) → σ[j]? ≠ some (some (.ref a))
def Fst (σ : L2.St) (W : AS) (H : Hp) (Q : VK) (d : D) (δ' : DEnv) : Prop :=
  ∀ a H' W', Step W H W' H' → ER K B W' σ H' δ' → H a = Option.none → W' a → Own K W' H' a d → NoSlot σ δ' a → Q (.ref a) H'
def liftF (f : DE) : TE := fun σ H Q => ∃ W δ, ER K B W σ H δ ∧ f δ (Fst K B σ W H Q) (Xst K B wx σ W H)
def RtR (W' : AS) (H' : Hp) (v : V) (d : D) : Prop := if fr = true then ∃ a, v = .ref a ∧ B.H0 a = Option.none ∧ W' a ∧ Own K W' H' a d else Rep K W' H' v d
def low (σ : L2.St) (W : AS) (H : Hp) (Dn : Ends) : DEnds where
  nx := fun δ' => ∀ σ' H' W', Step W H W' H' → ER K B W' σ' H' δ' → Dn.nx σ' H'
  rt := fun d δ' => ∀ v σ' H' W', Step W H W' H' → ER K B W' σ' H' δ' → RtR K B fr W' H' v d → Dn.rt v H'
  bk := fun δ' => ∀ σ' H' W', Step W H W' H' → ER K B W' σ' H' δ' → Dn.bk σ' H'
  ct := fun δ' => ∀ σ' H' W', Step W H W' H' → ER K B W' σ' H' δ' → Dn.ct σ' H'
  xx := fun x δ' => ∀ cls dd σ' H' W', Step W H W' H' → ER K B W' σ' H' δ' → XR K W' H' cls dd x → wx cls dd σ' H'
def liftS (g : DS) : TS := fun Dn σ H => ∃ W δ, ER K B W σ H δ ∧ g (low K B wx fr σ W H Dn) δ
end
structure PD (X : Cx) (B : Bd) (wx : WX) (e : Expr) (f : DE) : Prop where
  mono : Mono f
  run : PE X e (liftE X.K B wx f)
structure PF (X : Cx) (B : Bd) (wx : WX) (e : Expr) (f : DE) : Prop where
  mono : Mono f
  run : PE X e (liftF X.K B wx f)
structure PTD (X : Cx) (B : Bd) (wx : WX) (e : Expr) (f : DT) : Prop where
  mono : Mono f
  run : PT X e (liftT X.K B wx f)
structure PWD (X : Cx) (B : Bd) (wx : WX) (e : Expr) (f : DT) : Prop where
  mono : Mono f
  run : PW X e (liftT X.K B wx f)
structure PAD (X : Cx) (B : Bd) (wx : WX) (es : List Expr) (f : DA) : Prop where
  mono : Mono f
  run : PA X es (liftA X.K B wx f)
structure PSD (X : Cx) (B : Bd) (wx : WX) (fr : Bool) (st : Stmt) (g : DS) : Prop where
  mono : MonoS g
  run : PS X st (liftS X.K B wx fr g)
structure PSsD (X : Cx) (B : Bd) (wx : WX) (fr : Bool) (st : List Stmt) (g : DS) : Prop where
  mono : MonoS g
  run : PSs X st (liftS X.K B wx fr g)

section
variable {K : PySem.W.Frag} {B : Bd} {W : AS} {σ : L2.St} {H H' : Hp} {δ : DEnv} {a : Addr} {d : D}
theorem not_trk {W : AS} {H : Hp} {p : Addr} (t : ∀ a, W a → ∃ o, H a = some o) (h : H p = Option.none) : ¬ W p := fun z => by
  obtain ⟨o, q⟩ := t p z
  rw [h] at q; cases q
theorem Step.alloc (s : Same H H') (h : H a = Option.none) : Step W H (addW W a) H' := ⟨fun b o hb _ => s b o hb, fun b hb => hb.elim .inl fun z => .inr (by rw [z]; exact h), fun b hb => s.free hb, fun b xs hb => s b _ hb⟩
/-- a new thing at a: nothing else leans on it -/
theorem ER.alloc (er : ER K B W σ H δ) (s : Same H H') (h : H a = Option.none) (h' : ∃ o, H' a = some o) : ER K B (addW W a) σ H' δ ∧ NoSlot σ δ a := by
  have st : Step W H (addW W a) H' := .alloc s h
  have ow : ∀ {b : Addr} {d : D}, Own K W H b d → Own K (addW W a) H' b d := fun {b d} o => by
    obtain ⟨u, hu⟩ := o.some
    exact o.step st ((s b u hu).trans hu.symm)
  refine ⟨⟨er.len, fun b o hb n => s b o (er.keep b o hb n), fun b hb => .inl (er.sup b hb), fun b hb => ?_, fun j e hj => ?_, fun j e hj => ?_, fun j e hj => ?_, er.dst⟩, fun j e hj hs => ?_⟩
  · rcases hb with hb | hb
    · obtain ⟨o, q⟩ := er.trk b hb; exact ⟨o, s b o q⟩
    · rw [hb]; exact h'
  · obtain ⟨v, q, r⟩ := er.val j e hj; exact ⟨v, q, r.step st⟩
  · obtain ⟨b, q, w, n, o⟩ := er.own j e hj; exact ⟨b, q, .inl w, n, ow o⟩
  · obtain ⟨b, q, w, o⟩ := er.lent j e hj; exact ⟨b, q, w, ow o⟩
  · rcases hj with hj | hj
    · obtain ⟨b, q, w, n, o⟩ := er.own j e hj
      rw [hs] at q; cases q
      exact not_trk er.trk h w
    · obtain ⟨b, q, w, o⟩ := er.lent j e hj
      rw [hs] at q; cases q
      exact not_trk er.trk h (er.sup _ (B.m0 _ w))
/-- the thing at a is no longer guarded -/
theorem ER.unguard (er : ER K B W σ H δ) (n : NoSlot σ δ a) (w0 : ¬ B.W0 a) : ER K B (subW W a) σ H δ := by
  have ow : ∀ {b : Addr} {d : D}, Own K W H b d → Own K (subW W a) H b d := fun {b d} o => o.step .sub rfl
  refine ⟨er.len, er.keep, fun b hb => ⟨er.sup b hb, fun z => w0 (z ▸ hb)⟩, fun b hb => er.trk b hb.1, fun j e hj => ?_, fun j e hj => ?_, fun j e hj => ?_, er.dst⟩
  · obtain ⟨v, q, r⟩ := er.val j e hj; exact ⟨v, q, r.step .sub⟩
  · obtain ⟨b, q, w, m, o⟩ := er.own j e hj; exact ⟨b, q, ⟨w, fun z => n j e (.inl hj) (z ▸ q)⟩, m, ow o⟩
  · obtain ⟨b, q, w, o⟩ := er.lent j e hj; exact ⟨b, q, w, ow o⟩
theorem ER.w0 (er : ER K B W σ H δ) (h : H a = Option.none) : ¬ B.W0 a := fun z => not_trk er.trk h (er.sup a z)
theorem ER.h0 (er : ER K B W σ H δ) (h : H a = Option.none) : B.H0 a = Option.none := by
  cases q : B.H0 a with
  | none => rfl
  | some o =>
    by_cases m : B.M0 a
    · exact absurd (B.m0 a m) (er.w0 h)
    · rw [er.keep a o q m] at h; cases h
end

theorem pe_imp {X : Cx} {e : Expr} {t t' : TE} (h : PE X e t) (w : ∀ σ H Q, t' σ H Q → t σ H Q) : PE X e t' := ⟨fun pins s σ H Q I q => h.run pins s σ H Q I (w σ H Q q)⟩
theorem pt_imp {X : Cx} {e : Expr} {t t' : TT} (h : PT X e t) (w : ∀ σ H Q, t' σ H Q → t σ H Q) : PT X e t' := ⟨fun pins s σ H Q I q => h.run pins s σ H Q I (w σ H Q q)⟩
theorem pw_imp {X : Cx} {e : Expr} {t t' : TT} (h : PW X e t) (w : ∀ σ H Q, t' σ H Q → t σ H Q) : PW X e t' := ⟨fun wh pins s σ H Q I q => h.run wh pins s σ H Q I (w σ H Q q)⟩
theorem pa_imp {X : Cx} {e : List Expr} {t t' : TA} (h : PA X e t) (w : ∀ σ H Q, t' σ H Q → t σ H Q) : PA X e t' := ⟨fun pos pins s σ H Q I q => h.run pos pins s σ H Q I (w σ H Q q)⟩
theorem ps_imp {X : Cx} {st : Stmt} {t t' : TS} (h : PS X st t) (w : ∀ D σ H, t' D σ H → t D σ H) : PS X st t' := ⟨fun pins s σ H D I q => h.run pins s σ H D I (w D σ H q)⟩
theorem pss_imp {X : Cx} {st : List Stmt} {t t' : TS} (h : PSs X st t) (w : ∀ D σ H, t' D σ H → t D σ H) : PSs X st t' := ⟨fun pins s σ H D I q => h.run pins s σ H D I (w D σ H q)⟩

section
variable {X : Cx} {B : Bd} {wx : WX} {pos : Pos} {a b c e : Expr} {es : List Expr} {f f1 f2 f3 : DE}
theorem Xst.step {K : PySem.W.Frag} {σ : L2.St} {W W' : AS} {H H' : Hp} {x : XD} {δ : DEnv} (s : Step W H W' H') (h : Xst K B wx σ W H x δ) : Xst K B wx σ W' H' x δ :=
  fun cls dd H2 W2 s2 e2 r => h cls dd H2 W2 (s.trans s2) e2 r
/-- the general step: behind a first reading, a second -/
theorem thenE {K : PySem.W.Frag} {α : Type} {R : AS → Hp → α → D → Prop} {σ : L2.St} {H : Hp} {W : AS} {f : DE} {Q : α → Hp → Prop} {δ : DEnv} {P : D → DEnv → Prop} (m : Mono f) (h : f δ P (Xst K B wx σ W H))
    (k : ∀ d δ', P d δ' → Pst K B R σ W H Q d δ') : f δ (Pst K B R σ W H Q) (Xst K B wx σ W H) := m _ _ _ _ _ k (fun _ _ z => z) h

/-! ### names, constants -/
def dVar (i : Nat) : DE := fun δ Q _ => match δ[i]? with
  | some (.v d) => Q d δ
  | _ => False
theorem mono_var {i : Nat} : Mono (dVar i) := fun δ Q Q' E E' k _ h => by
  unfold dVar at h ⊢
  split at h
  · exact k _ _ h
  · exact h.elim
theorem pd_var {i : Nat} {x : Str} (h : PE X (.Name x pos) (tVar i)) : PD X B wx (.Name x pos) (dVar i) := by
  refine ⟨mono_var, pe_imp h fun σ H Q ⟨W, δ, er, q⟩ => ?_⟩
  unfold dVar at q
  split at q
  · rename_i d hd
    obtain ⟨v, e, r⟩ := er.val i d hd
    exact ⟨v, e, q v H W .refl er r⟩
  · exact q.elim
/-- an owned slot's thing is given away: from now on it is only read -/
def dRel (i : Nat) : DE := fun δ Q _ => match δ[i]? with
  | some (.own d) => Q d (δ.set i (.v d))
  | _ => False
theorem mono_rel {i : Nat} : Mono (dRel i) := fun δ Q Q' E E' k _ h => by
  unfold dRel at h ⊢
  split at h
  · exact k _ _ h
  · exact h.elim
theorem Own.sub {K : PySem.W.Frag} {W : AS} {H : Hp} {a b : Addr} {d : D} (h : Own K W H a d) : Own K (subW W b) H a d := h.step .sub rfl
theorem ER.release {K : PySem.W.Frag} {W : AS} {σ : L2.St} {H : Hp} {δ : DEnv} {i : Nat} {d : D} (er : ER K B W σ H δ) (hd : δ[i]? = some (.own d)) :
    ∃ a, σ[i]? = some (some (.ref a)) ∧ ER K B (subW W a) σ H (δ.set i (.v d)) ∧ Rep K (subW W a) H (.ref a) d := by
  obtain ⟨a, e, w, n, o⟩ := er.own i d hd
  have hi : i < δ.length := (List.getElem?_eq_some_iff.mp hd).1
  have r : Rep K (subW W a) H (.ref a) d := (Own.sub o).rep fun z => z.2 rfl
  refine ⟨a, e, ?_, r⟩
  refine ⟨by simp [er.len], er.keep, fun b hb => ⟨er.sup b hb, fun z => ?_⟩, fun b hb => er.trk b hb.1, fun j d' h => ?_, fun j d' h => ?_, fun j d' h => ?_, fun j k b d1 d2 h1 h2 h3 h4 => ?_⟩
  · subst z
    obtain ⟨o, q⟩ := B.w0 b hb
    rw [n] at q; cases q
  · by_cases hj : i = j
    · subst hj
      rw [List.getElem?_set_self hi] at h
      cases h
      exact ⟨_, e, r⟩
    · rw [List.getElem?_set_ne hj] at h
      obtain ⟨v, q, r⟩ := er.val j d' h
      exact ⟨v, q, r.step .sub⟩
  · by_cases hj : i = j
    · subst hj
      rw [List.getElem?_set_self hi] at h
      cases h
    · rw [List.getElem?_set_ne hj] at h
      obtain ⟨b, q, w2, n2, o2⟩ := er.own j d' h
      refine ⟨b, q, ⟨w2, fun z => ?_⟩, n2, Own.sub o2⟩
      subst z
      exact hj (er.dst i j b d d' (.inl hd) (.inl h) e q)
  · by_cases hj : i = j
    · subst hj
      rw [List.getElem?_set_self hi] at h
      cases h
    · rw [List.getElem?_set_ne hj] at h
      obtain ⟨b, q, w2, o2⟩ := er.lent j d' h
      exact ⟨b, q, w2, Own.sub o2⟩
  · have nj : i ≠ j := fun z => by
      subst z
      rw [List.getElem?_set_self hi] at h1
      rcases h1 with h1 | h1 <;> cases h1
    have nk : i ≠ k := fun z => by
      subst z
      rw [List.getElem?_set_self hi] at h2
      rcases h2 with h2 | h2 <;> cases h2
    rw [List.getElem?_set_ne nj] at h1
    rw [List.getElem?_set_ne nk] at h2
    exact er.dst j k b d1 d2 h1 h2 h3 h4
theorem pd_rel {i : Nat} {x : Str} (h : PE X (.Name x pos) (tVar i)) : PD X B wx (.Name x pos) (dRel i) := by
  refine ⟨mono_rel, pe_imp h fun σ H Q ⟨W, δ, er, q⟩ => ?_⟩
  unfold dRel at q
  split at q
  · rename_i d hd
    obtain ⟨a, e, er', r⟩ := er.release hd
    exact ⟨_, e, q _ H _ .sub er' r⟩
  · exact q.elim
def dC (d : D) : DE := fun δ Q _ => Q d δ
theorem mono_c {d : D} : Mono (dC d) := fun _ _ _ _ _ k _ h => k _ _ h
theorem pd_c {d : D} {v : V} (h : PE X e (tC v)) (r : ∀ W H, Rep X.K W H v d) : PD X B wx e (dC d) := ⟨mono_c, pe_imp h fun σ H Q ⟨W, δ, er, q⟩ => q v H W .refl er (r W H)⟩
theorem pd_int {i : Int} {j p} : PD X B wx (.Constant (.int i) j p) (dC (.int i)) := pd_c pe_int fun _ _ => .int i
theorem pd_bl {i : Bool} {j p} : PD X B wx (.Constant (.bool i) j p) (dC (.bl i)) := pd_c pe_bl fun _ _ => .bl i
theorem pd_str {i : Str} {j p} : PD X B wx (.Constant (.str i) j p) (dC (.str i)) := pd_c pe_str fun _ _ => .str i
theorem pd_non {j p} : PD X B wx (.Constant .none j p) (dC .non) := pd_c pe_non fun _ _ => .non

/-! ### operations on two values -/
abbrev G2 := D → D → (D → Prop) → Prop
/-- what comes of a value operation over a heap that grows -/
def Gw (K : PySem.W.Frag) (W : AS) (H : Hp) (Q : VK) (z : D) : Prop := ∀ v H', Same H H' → Rep K W H' v z → Q v H'
structure OpD (K : PySem.W.Frag) (r : R2) (g : G2) : Prop where
  mono : ∀ d e (Q Q' : D → Prop), (∀ z, Q z → Q' z) → g d e Q → g d e Q'
  run : ∀ W H x y d e Q, (∀ a, W a → ∃ o, H a = some o) → Rep K W H x d → Rep K W H y e → g d e (Gw K W H Q) → r x y H Q
def dOp (g : G2) (f1 f2 : DE) : DE := fun δ Q E => f1 δ (fun x δ1 => f2 δ1 (fun y δ2 => g x y fun z => Q z δ2) E) E
theorem mono_op {g : G2} (m1 : Mono f1) (m2 : Mono f2) (mg : ∀ d e (Q Q' : D → Prop), (∀ z, Q z → Q' z) → g d e Q → g d e Q') : Mono (dOp g f1 f2) := fun δ Q Q' E E' k ke h =>
  m1 _ _ _ _ _ (fun x δ1 h => m2 _ _ _ _ _ (fun y δ2 h => mg _ _ _ _ (fun z h => k _ _ h) h) ke h) ke h
theorem bin_run {K : PySem.W.Frag} {g : G2} {r : R2} (hd : OpD K r g) (m1 : Mono f1) (m2 : Mono f2) (σ : L2.St) (H : Hp) (Q : VK) (h : liftE K B wx (dOp g f1 f2) σ H Q) : tOp r (liftE K B wx f1) (liftE K B wx f2) σ H Q := by
  obtain ⟨W, δ, er, q⟩ := h
  refine ⟨W, δ, er, m1 _ _ _ _ _ (fun x δ1 h1 => ?_) (fun _ _ z => z) q⟩
  intro v1 H1 W1 s1 er1 r1
  refine ⟨W1, δ1, er1, m2 _ _ _ _ _ (fun y δ2 h2 => ?_) (fun x δ' z => z.step s1) h1⟩
  intro v2 H2 W2 s2 er2 r2
  refine hd.run W2 H2 v1 v2 x y Q er2.trk (r1.step s2) r2 (hd.mono _ _ _ _ (fun z hz => ?_) h2)
  intro v H3 sm rz
  exact hz v H3 W2 ((s1.trans s2).trans (.same sm)) (er2.grow sm) rz
theorem pd_op {op : Operator} {r : R2} {g : G2} (ho : OpR X (binaryOp op) r) (hd : OpD X.K r g) (ha : PD X B wx a f1) (hb : PD X B wx b f2) : PD X B wx (.BinOp a op b pos) (dOp g f1 f2) :=
  ⟨mono_op ha.mono hb.mono hd.mono, pe_imp (pe_op ho ha.run hb.run) (bin_run hd ha.mono hb.mono)⟩
theorem pd_cmp {op : CmpOp} {r : R2} {g : G2} (ho : OpR X (compareOp op) r) (hd : OpD X.K r g) (ha : PD X B wx a f1) (hb : PD X B wx b f2) (hm : behindInMarks op b = false) : PD X B wx (.Compare a [op] [b] pos) (dOp g f1 f2) :=
  ⟨mono_op ha.mono hb.mono hd.mono, pe_imp (pe_cmpR ho ha.run hb.run hm) (bin_run hd ha.mono hb.mono)⟩
theorem pd_ix {r : R2} {g : G2} (ho : IxR X r) (hd : OpD X.K r g) (ha : PD X B wx a f1) (hb : PD X B wx b f2) (hs : PlainIx b) : PD X B wx (.Subscript a b pos) (dOp g f1 f2) :=
  ⟨mono_op ha.mono hb.mono hd.mono, pe_imp (pe_ix ho ha.run hb.run hs) (bin_run hd ha.mono hb.mono)⟩
/-- ints in, a value out -/
def gI (C : Int → Int → Prop) (h : Int → Int → D) : G2 := fun d e Q => match d, e with
  | .int i, .int j => C i j ∧ Q (h i j)
  | _, _ => False
def gI0 (h : Int → Int → D) : G2 := fun d e Q => match d, e with
  | .int i, .int j => Q (h i j)
  | _, _ => False
theorem od_I {K : PySem.W.Frag} {C : Int → Int → Prop} {h : Int → Int → D} {h' : Int → Int → V} (hh : ∀ W H i j, Rep K W H (h' i j) (h i j)) : OpD K (rI C h') (gI C h) where
  mono := fun d e Q Q' k q => by
    unfold gI at q ⊢
    split at q
    · exact ⟨q.1, k _ q.2⟩
    · exact q.elim
  run := fun W H x y d e Q t rx ry q => by
    unfold gI at q
    split at q
    · cases rx; cases ry
      exact ⟨_, _, rfl, rfl, q.1, q.2 _ H (Same.refl H) (hh W H _ _)⟩
    · exact q.elim
theorem od_I0 {K : PySem.W.Frag} {h : Int → Int → D} {h' : Int → Int → V} (hh : ∀ W H i j, Rep K W H (h' i j) (h i j)) : OpD K (rI0 h') (gI0 h) where
  mono := fun d e Q Q' k q => by
    unfold gI0 at q ⊢
    split at q
    · exact k _ q
    · exact q.elim
  run := fun W H x y d e Q t rx ry q => by
    unfold gI0 at q
    split at q
    · cases rx; cases ry
      exact ⟨_, _, rfl, rfl, q _ H (Same.refl H) (hh W H _ _)⟩
    · exact q.elim
abbrev dAdd := dOp (gI0 fun i j => .int (i + j))
abbrev dSub := dOp (gI0 fun i j => .int (i - j))
abbrev dMul := dOp (gI CMulW fun i j => .int (i * j))
abbrev dMod := dOp (gI (fun _ j => j ≠ 0) fun i j => .int (i.fmod j))
abbrev dPow := dOp (gI CPow fun i j => .int (i ^ j.toNat))
theorem pd_add (ha : PD X B wx a f1) (hb : PD X B wx b f2) : PD X B wx (.BinOp a .Add b pos) (dAdd f1 f2) := pd_op op_add (od_I0 fun _ _ _ _ => .int _) ha hb
theorem pd_sub (ha : PD X B wx a f1) (hb : PD X B wx b f2) : PD X B wx (.BinOp a .Sub b pos) (dSub f1 f2) := pd_op op_sub (od_I0 fun _ _ _ _ => .int _) ha hb
theorem pd_mul (ha : PD X B wx a f1) (hb : PD X B wx b f2) : PD X B wx (.BinOp a .Mult b pos) (dMul f1 f2) := pd_op op_mulW (od_I fun _ _ _ _ => .int _) ha hb
theorem pd_mod (ha : PD X B wx a f1) (hb : PD X B wx b f2) : PD X B wx (.BinOp a .Mod b pos) (dMod f1 f2) := pd_op op_modN (od_I fun _ _ _ _ => .int _) ha hb
theorem pd_pow (ha : PD X B wx a f1) (hb : PD X B wx b f2) : PD X B wx (.BinOp a .Pow b pos) (dPow f1 f2) := pd_op op_pow (od_I fun _ _ _ _ => .int _) ha hb
/-- // by any divisor but 0, of at most nine thousand bits, or of a number of at most 13490 bits -/
def CDivG (i j : Int) : Prop := j ≠ 0 ∧ (j.natAbs.log2 < 9000 ∨ i.natAbs.log2 < 13490)
theorem noPylong_wide {x y : Int} (h : x.natAbs.log2 < 13490) : Builtin.divisionGoesByPylong x y = false := by
  unfold Builtin.divisionGoesByPylong
  simp only [Bool.and_eq_false_iff, decide_eq_false_iff_not]
  by_cases hx : (x == 0) = true
  · right; rw [if_pos hx]; omega
  · rw [if_neg hx]
    by_cases hy : (y == 0) = true
    · left; rw [if_pos hy]; omega
    · rw [if_neg hy]; omega
theorem op_fdivG : OpR X (binaryOp .FloorDiv) (rI CDivG fun i j => .int (i.fdiv j)) := by
  intro pins s σ H x y v u Q I rx ry h
  obtain ⟨i, j, rfl, rfl, hc, q⟩ := h
  obtain ⟨t, rfl⟩ := rx
  obtain ⟨t', rfl⟩ := ry
  exact floordiv_int hc.1 ⟨.int _, H, I.tok _, ⟨_, rfl⟩, q⟩ (.inl (hc.2.elim PyProof.noPylong_of_log2 noPylong_wide))
abbrev dFdiv := dOp (gI CDivG fun i j => .int (i.fdiv j))
theorem pd_fdiv (ha : PD X B wx a f1) (hb : PD X B wx b f2) : PD X B wx (.BinOp a .FloorDiv b pos) (dFdiv f1 f2) := pd_op op_fdivG (od_I fun _ _ _ _ => .int _) ha hb
abbrev dLt := dOp (gI0 fun i j => .bl (decide (i < j)))
abbrev dLe := dOp (gI0 fun i j => .bl (decide (i ≤ j)))
abbrev dGt := dOp (gI0 fun i j => .bl (decide (j < i)))
abbrev dGe := dOp (gI0 fun i j => .bl (decide (j ≤ i)))
theorem pd_lt (ha : PD X B wx a f1) (hb : PD X B wx b f2) : PD X B wx (.Compare a [.Lt] [b] pos) (dLt f1 f2) := pd_cmp op_lt (od_I0 fun _ _ _ _ => .bl _) ha hb (nomark _)
theorem pd_le (ha : PD X B wx a f1) (hb : PD X B wx b f2) : PD X B wx (.Compare a [.LtE] [b] pos) (dLe f1 f2) := pd_cmp op_le (od_I0 fun _ _ _ _ => .bl _) ha hb (nomark _)
theorem pd_gt (ha : PD X B wx a f1) (hb : PD X B wx b f2) : PD X B wx (.Compare a [.Gt] [b] pos) (dGt f1 f2) := pd_cmp op_gt (od_I0 fun _ _ _ _ => .bl _) ha hb (nomark _)
theorem pd_ge (ha : PD X B wx a f1) (hb : PD X B wx b f2) : PD X B wx (.Compare a [.GtE] [b] pos) (dGe f1 f2) := pd_cmp op_ge (od_I0 fun _ _ _ _ => .bl _) ha hb (nomark _)
end
end DL

namespace DL
open PySem PySem.Spec PyProof.Rows L2

/-! ### == over data -/
mutual
def toP : D → PyData
  | .non => .none
  | .bl b => .bool b
  | .int i => .int i
  | .str x => .str x
  | .lst ds => .list (toPs ds)
  | .tup ds => .tuple (toPs ds)
  | .dct _ => .dict []
  | .exc _ _ => .dict []
  | .dtt _ => .dict []
def toPs : List D → List PyData
  | [] => []
  | d :: ds => toP d :: toPs ds
end
def shp (d : D) : Bool := SeqAt.shaped (toP d)
def eqd (d e : D) : Bool := PyData.eqv (toP d) (toP e)
theorem Rep.dp {K : PySem.W.Frag} {W : AS} {H : Hp} {v : V} {d : D} (h : Rep K W H v d) : (toP d).canLay0 = true → Dp K H v (toP d) :=
  @Rep.rec K W H (fun v d _ => (toP d).canLay0 = true → Dp K H v (toP d)) (fun vs ds _ => PyData.canLayAll0 (toPs ds) = true → DpAll K H vs (toPs ds)) (fun _ _ _ => True) (fun _ _ _ => True)
    (fun _ => by simp only [toP]; exact .non) (fun b _ => by simp only [toP]; exact .bl b) (fun b _ => by simp only [toP]; exact .int b) (fun b _ => by simp only [toP]; exact .str b)
    (fun l _ r c => by simp only [toP] at c ⊢; exact .lst l.sq (r (by simpa [PyData.canLay0] using c)))
    (fun l _ r c => by simp only [toP] at c ⊢; exact .tup l.sq (r (by simpa [PyData.canLay0] using c)))
    (fun _ _ _ _ c => by simp [toP, PyData.canLay0] at c) (fun _ _ c => by simp [toP, PyData.canLay0] at c) (fun _ _ _ _ _ _ c => by simp [toP, PyData.canLay0] at c) (fun _ _ _ _ c => by simp [toP, PyData.canLay0] at c)
    (fun _ => by simp only [toPs]; exact .nil)
    (fun _ _ a b c => by
      simp only [toPs, PyData.canLayAll0, Bool.and_eq_true] at c ⊢
      exact .cons (a c.1) (b c.2))
    trivial (fun _ _ _ _ => trivial) trivial (fun _ _ _ _ => trivial) v d h
def gEq : G2 := fun d e Q => shp d = true ∧ shp e = true ∧ Q (.bl (eqd d e))
def gNe : G2 := fun d e Q => shp d = true ∧ shp e = true ∧ Q (.bl (!eqd d e))
theorem od_eq {K : PySem.W.Frag} : OpD K (rEqD K) gEq where
  mono := fun d e Q Q' k q => ⟨q.1, q.2.1, k _ q.2.2⟩
  run := fun W H x y d e Q t rx ry q => ⟨toP d, toP e, rx.dp (SeqAt.canLay_of_shaped q.1), ry.dp (SeqAt.canLay_of_shaped q.2.1), q.1, q.2.1, q.2.2 _ H (Same.refl H) (.bl _)⟩
theorem od_ne {K : PySem.W.Frag} : OpD K (rNeD K) gNe where
  mono := fun d e Q Q' k q => ⟨q.1, q.2.1, k _ q.2.2⟩
  run := fun W H x y d e Q t rx ry q => ⟨toP d, toP e, rx.dp (SeqAt.canLay_of_shaped q.1), ry.dp (SeqAt.canLay_of_shaped q.2.1), q.1, q.2.1, q.2.2 _ H (Same.refl H) (.bl _)⟩
abbrev dEq := dOp gEq
abbrev dNe := dOp gNe
section
variable {X : Cx} {B : Bd} {wx : WX} {pos : Pos} {a b c e : Expr} {es : List Expr} {f f1 f2 f3 : DE} {k : Nat}
theorem pd_eq (hr : Room k X.A) (ha : PD X B wx a f1) (hb : PD X B wx b f2) : PD X B wx (.Compare a [.Eq] [b] pos) (dEq f1 f2) := pd_cmp (op_eqD hr.units) od_eq ha hb (nomark _)
theorem pd_ne (hr : Room k X.A) (ha : PD X B wx a f1) (hb : PD X B wx b f2) : PD X B wx (.Compare a [.NotEq] [b] pos) (dNe f1 f2) := pd_cmp (op_neD hr.units) od_ne ha hb (nomark _)
/-! ### items -/
def gIx : G2 := fun d e Q => match d, e with
  | .lst xs, .int i => ∃ z, atI xs i = some z ∧ Q z
  | .tup xs, .int i => ∃ z, atI xs i = some z ∧ Q z
  | .str z, .int i => z.length ≤ sizeLine ∧ ∃ c, atI z.cps.toList i = some c ∧ Q (.str ⟨#[c]⟩)
  | _, _ => False
theorem Reps.atI {K : PySem.W.Frag} {W : AS} {H : Hp} {vs : List V} {ds : List D} {i : Int} {d : D} (h : Reps K W H vs ds) (e : L2.atI ds i = some d) : ∃ v, L2.atI vs i = some v ∧ Rep K W H v d := by
  unfold L2.atI at e ⊢
  rw [h.length]
  cases q : ixN ds.length i with
  | none => rw [q] at e; cases e
  | some j =>
    rw [q] at e
    exact h.get e
theorem od_ix {K : PySem.W.Frag} : OpD K (rIx K) gIx where
  mono := fun d e Q Q' k q => by
    unfold gIx at q ⊢
    split at q
    · obtain ⟨z, h, q⟩ := q; exact ⟨z, h, k _ q⟩
    · obtain ⟨z, h, q⟩ := q; exact ⟨z, h, k _ q⟩
    · obtain ⟨q0, z, h, q⟩ := q; exact ⟨q0, z, h, k _ q⟩
    · exact q.elim
  run := fun W H x y d e Q t rx ry q => by
    unfold gIx at q
    split at q
    · obtain ⟨z, h, q⟩ := q
      cases rx with
      | lst l r =>
        cases ry
        obtain ⟨v, e1, r1⟩ := r.atI h
        exact .inl ⟨_, _, _, v, rfl, rfl, l.sq, e1, q v H (Same.refl H) r1⟩
    · obtain ⟨z, h, q⟩ := q
      cases rx with
      | tup l r =>
        cases ry
        obtain ⟨v, e1, r1⟩ := r.atI h
        exact .inr (.inl ⟨_, _, _, v, rfl, rfl, l.sq, e1, q v H (Same.refl H) r1⟩)
    · obtain ⟨q0, c, h, q⟩ := q
      cases rx; cases ry
      exact .inr (.inr ⟨_, _, c, rfl, rfl, q0, h, q _ H (Same.refl H) (.str _)⟩)
    · exact q.elim
abbrev dIx := dOp gIx
theorem pd_item (ha : PD X B wx a f1) (hb : PD X B wx b f2) (hs : PlainIx b) : PD X B wx (.Subscript a b pos) (dIx f1 f2) := pd_ix ix_seq od_ix ha hb hs
/-! ### one value -/
abbrev G1 := D → (D → Prop) → Prop
structure UnD (K : PySem.W.Frag) (r : V → Hp → VK → Prop) (g : G1) : Prop where
  mono : ∀ d (Q Q' : D → Prop), (∀ z, Q z → Q' z) → g d Q → g d Q'
  run : ∀ W H x d Q, (∀ a, W a → ∃ o, H a = some o) → Rep K W H x d → g d (Gw K W H Q) → r x H Q
def dUn (g : G1) (f1 : DE) : DE := fun δ Q E => f1 δ (fun x δ1 => g x fun z => Q z δ1) E
theorem mono_un {g : G1} (m1 : Mono f1) (mg : ∀ d (Q Q' : D → Prop), (∀ z, Q z → Q' z) → g d Q → g d Q') : Mono (dUn g f1) := fun δ Q Q' E E' k ke h =>
  m1 _ _ _ _ _ (fun x δ1 h => mg _ _ _ (fun z h => k _ _ h) h) ke h
theorem un_run {K : PySem.W.Frag} {g : G1} {r : V → Hp → VK → Prop} (hd : UnD K r g) (m1 : Mono f1) (σ : L2.St) (H : Hp) (Q : VK) (h : liftE K B wx (dUn g f1) σ H Q) : tUn r (liftE K B wx f1) σ H Q := by
  obtain ⟨W, δ, er, q⟩ := h
  refine ⟨W, δ, er, m1 _ _ _ _ _ (fun x δ1 h1 => ?_) (fun _ _ z => z) q⟩
  intro v1 H1 W1 s1 er1 r1
  refine hd.run W1 H1 v1 x Q er1.trk r1 (hd.mono _ _ _ (fun z hz => ?_) h1)
  intro v H3 sm rz
  exact hz v H3 W1 (s1.trans (.same sm)) (er1.grow sm) rz
theorem pd_un {op : UnaryOp} {r : V → Hp → VK → Prop} {g : G1} (ho : UnR X (unaryOp op) r) (hd : UnD X.K r g) (ha : PD X B wx a f1) : PD X B wx (.UnaryOp op a pos) (dUn g f1) :=
  ⟨mono_un ha.mono hd.mono, pe_imp (pe_un ho ha.run) (un_run hd ha.mono)⟩
def gNeg : G1 := fun d Q => match d with
  | .int i => Q (.int (-i))
  | _ => False
theorem ud_neg {K : PySem.W.Frag} : UnD K (rU fun i => .int (-i)) gNeg where
  mono := fun d Q Q' k q => by
    unfold gNeg at q ⊢
    split at q
    · exact k _ q
    · exact q.elim
  run := fun W H x d Q t rx q => by
    unfold gNeg at q
    split at q
    · cases rx; exact ⟨_, rfl, q _ H (Same.refl H) (.int _)⟩
    · exact q.elim
theorem pd_neg (ha : PD X B wx a f1) : PD X B wx (.UnaryOp .USub a pos) (dUn gNeg f1) := pd_un un_neg ud_neg ha
/-! ### is None -/
def isNon : D → Bool
  | .non => true
  | _ => false
theorem Rep.isNon {K : PySem.W.Frag} {W : AS} {H : Hp} {v : V} {d : D} (h : Rep K W H v d) : decide (v = .non) = isNon d := by
  cases h <;> rfl
def dIsN (f1 : DE) : DE := dUn (fun d Q => Q (.bl (isNon d))) f1
def dNotN (f1 : DE) : DE := dUn (fun d Q => Q (.bl (!isNon d))) f1
theorem pd_isN {j pos'} (ha : PD X B wx a f1) : PD X B wx (.Compare a [.Is] [.Constant .none j pos'] pos) (dIsN f1) := by
  refine ⟨mono_un ha.mono fun _ _ _ k q => k _ q, pe_imp (pe_cmp (pc_isN ha.run) rfl) fun σ H Q ⟨W, δ, er, q⟩ => ?_⟩
  refine ⟨W, δ, er, ha.mono _ _ _ _ _ (fun x δ1 h1 => ?_) (fun _ _ z => z) q⟩
  intro v1 H1 W1 s1 er1 r1
  rw [r1.isNon]
  exact h1 _ _ _ s1 er1 (.bl _)
theorem pd_notN {j pos'} (ha : PD X B wx a f1) : PD X B wx (.Compare a [.IsNot] [.Constant .none j pos'] pos) (dNotN f1) := by
  refine ⟨mono_un ha.mono fun _ _ _ k q => k _ q, pe_imp (pe_cmp (pc_notN ha.run) rfl) fun σ H Q ⟨W, δ, er, q⟩ => ?_⟩
  refine ⟨W, δ, er, ha.mono _ _ _ _ _ (fun x δ1 h1 => ?_) (fun _ _ z => z) q⟩
  intro v1 H1 W1 s1 er1 r1
  rw [r1.isNon]
  exact h1 _ _ _ s1 er1 (.bl _)
/-! ### tests -/
def dTest (f1 : DE) : DT := fun δ Q E => f1 δ (fun d δ1 => match d with | .bl k => Q k δ1 | _ => False) E
theorem mono_test (m1 : Mono f1) : Mono (dTest f1) := fun δ Q Q' E E' k ke h => m1 _ _ _ _ _ (fun x δ1 h => by
  split at h
  · exact k _ _ h
  · exact h.elim) ke h
theorem test_run {K : PySem.W.Frag} (m1 : Mono f1) (σ : L2.St) (H : Hp) (Q : Bool → Hp → Prop) (h : liftT K B wx (dTest f1) σ H Q) : tTest (liftE K B wx f1) σ H Q := by
  obtain ⟨W, δ, er, q⟩ := h
  refine ⟨W, δ, er, m1 _ _ _ _ _ (fun x δ1 h1 => ?_) (fun _ _ z => z) q⟩
  intro v1 H1 W1 s1 er1 r1
  split at h1
  · cases r1
    exact ⟨_, rfl, h1 _ _ _ s1 er1 rfl⟩
  · exact h1.elim
/-- any expression that gives a truth, as a test -/
theorem pt_plain (ha : PD X B wx a f1) (he : ∀ whole, isTrue a X.env whole = (do let v ← whole; standAt a.pos; holding [v] (truthy v)) := by intro _; rfl) : PTD X B wx a (dTest f1) :=
  ⟨mono_test ha.mono, pt_imp (pt_val ha.run he) (test_run ha.mono)⟩
theorem ptd_cmp {op : CmpOp} {r : R2} {g : G2} (ho : OpR X (compareOp op) r) (hd : OpD X.K r g) (ha : PD X B wx a f1) (hb : PD X B wx b f2) (hm : behindInMarks op b = false) : PTD X B wx (.Compare a [op] [b] pos) (dTest (dOp g f1 f2)) := by
  refine ⟨mono_test (mono_op ha.mono hb.mono hd.mono), pt_imp (pt_cmpR ho ha.run hb.run hm) fun σ H Q h => ?_⟩
  have h2 := test_run (mono_op ha.mono hb.mono hd.mono) σ H Q h
  exact bin_run hd ha.mono hb.mono σ H _ h2
theorem pt_lt (ha : PD X B wx a f1) (hb : PD X B wx b f2) : PTD X B wx (.Compare a [.Lt] [b] pos) (dTest (dLt f1 f2)) := ptd_cmp op_lt (od_I0 fun _ _ _ _ => .bl _) ha hb (nomark _)
theorem pt_le (ha : PD X B wx a f1) (hb : PD X B wx b f2) : PTD X B wx (.Compare a [.LtE] [b] pos) (dTest (dLe f1 f2)) := ptd_cmp op_le (od_I0 fun _ _ _ _ => .bl _) ha hb (nomark _)
theorem pt_gt (ha : PD X B wx a f1) (hb : PD X B wx b f2) : PTD X B wx (.Compare a [.Gt] [b] pos) (dTest (dGt f1 f2)) := ptd_cmp op_gt (od_I0 fun _ _ _ _ => .bl _) ha hb (nomark _)
theorem pt_ge (ha : PD X B wx a f1) (hb : PD X B wx b f2) : PTD X B wx (.Compare a [.GtE] [b] pos) (dTest (dGe f1 f2)) := ptd_cmp op_ge (od_I0 fun _ _ _ _ => .bl _) ha hb (nomark _)
theorem pt_eq (hr : Room k X.A) (ha : PD X B wx a f1) (hb : PD X B wx b f2) : PTD X B wx (.Compare a [.Eq] [b] pos) (dTest (dEq f1 f2)) := ptd_cmp (op_eqD hr.units) od_eq ha hb (nomark _)
theorem pt_ne (hr : Room k X.A) (ha : PD X B wx a f1) (hb : PD X B wx b f2) : PTD X B wx (.Compare a [.NotEq] [b] pos) (dTest (dNe f1 f2)) := ptd_cmp (op_neD hr.units) od_ne ha hb (nomark _)
theorem pt_isN {j pos'} (ha : PD X B wx a f1) : PTD X B wx (.Compare a [.Is] [.Constant .none j pos'] pos) (dTest (dIsN f1)) := by
  have h := pd_isN (pos := pos) (j := j) (pos' := pos') ha
  refine ⟨mono_test h.mono, pt_imp (pt_cmp (pc_isN ha.run) rfl) fun σ H Q ⟨W, δ, er, q⟩ => ?_⟩
  refine ⟨W, δ, er, ha.mono _ _ _ _ _ (fun x δ1 h1 => ?_) (fun _ _ z => z) q⟩
  intro v1 H1 W1 s1 er1 r1
  rw [r1.isNon]
  exact ⟨_, rfl, h1 _ _ _ s1 er1 rfl⟩
theorem pt_notN {j pos'} (ha : PD X B wx a f1) : PTD X B wx (.Compare a [.IsNot] [.Constant .none j pos'] pos) (dTest (dNotN f1)) := by
  have h := pd_notN (pos := pos) (j := j) (pos' := pos') ha
  refine ⟨mono_test h.mono, pt_imp (pt_cmp (pc_notN ha.run) rfl) fun σ H Q ⟨W, δ, er, q⟩ => ?_⟩
  refine ⟨W, δ, er, ha.mono _ _ _ _ _ (fun x δ1 h1 => ?_) (fun _ _ z => z) q⟩
  intro v1 H1 W1 s1 er1 r1
  rw [r1.isNon]
  exact ⟨_, rfl, h1 _ _ _ s1 er1 rfl⟩
variable {t1 t2 : DT} {rest : List Expr}
def dNot (t : DT) : DT := fun δ Q E => t δ (fun b δ1 => Q (!b) δ1) E
def dAnd (t u : DT) : DT := fun δ Q E => t δ (fun b δ1 => if b = true then u δ1 Q E else Q false δ1) E
def dOr (t u : DT) : DT := fun δ Q E => t δ (fun b δ1 => if b = true then Q true δ1 else u δ1 Q E) E
theorem mono_not (m : Mono t1) : Mono (dNot t1) := fun δ Q Q' E E' k ke h => m _ _ _ _ _ (fun x δ1 h => k _ _ h) ke h
theorem mono_and (m : Mono t1) (m2 : Mono t2) : Mono (dAnd t1 t2) := fun δ Q Q' E E' k ke h => m _ _ _ _ _ (fun x δ1 h => by
  cases x with
  | true => exact m2 _ _ _ _ _ k ke h
  | false => exact k _ _ h) ke h
theorem mono_or (m : Mono t1) (m2 : Mono t2) : Mono (dOr t1 t2) := fun δ Q Q' E E' k ke h => m _ _ _ _ _ (fun x δ1 h => by
  cases x with
  | false => exact m2 _ _ _ _ _ k ke h
  | true => exact k _ _ h) ke h
theorem Pst.step {K : PySem.W.Frag} {α β : Type} {R : AS → Hp → α → β → Prop} {σ : L2.St} {W W' : AS} {H H' : Hp} {Q : α → Hp → Prop} {d : β} {δ : DEnv} (s : Step W H W' H') (h : Pst K B R σ W H Q d δ) : Pst K B R σ W' H' Q d δ :=
  fun v H2 W2 s2 e2 r => h v H2 W2 (s.trans s2) e2 r
theorem pt_nt (ha : PTD X B wx a t1) : PTD X B wx (.UnaryOp .Not a pos) (dNot t1) := by
  refine ⟨mono_not ha.mono, pt_imp (pt_not ha.run) fun σ H Q ⟨W, δ, er, q⟩ => ?_⟩
  refine ⟨W, δ, er, ha.mono _ _ _ _ _ (fun x δ1 h1 => ?_) (fun _ _ z => z) q⟩
  intro v1 H1 W1 s1 er1 r1
  subst r1
  exact h1 _ _ _ s1 er1 rfl
theorem pw_a1 (ha : PTD X B wx a t1) : PWD X B wx (.BoolOp .And [a] pos) t1 := ⟨ha.mono, pw_and1 ha.run⟩
theorem pw_o1 (ha : PTD X B wx a t1) : PWD X B wx (.BoolOp .Or [a] pos) t1 := ⟨ha.mono, pw_or1 ha.run⟩
theorem pw_a (ha : PTD X B wx a t1) (hb : PWD X B wx (.BoolOp .And (b :: rest) pos) t2) : PWD X B wx (.BoolOp .And (a :: b :: rest) pos) (dAnd t1 t2) := by
  refine ⟨mono_and ha.mono hb.mono, pw_imp (pw_and ha.run hb.run) fun σ H Q ⟨W, δ, er, q⟩ => ?_⟩
  refine ⟨W, δ, er, ha.mono _ _ _ _ _ (fun x δ1 h1 => ?_) (fun _ _ z => z) q⟩
  intro v1 H1 W1 s1 er1 r1
  subst r1
  cases v1 with
  | true => exact ⟨W1, δ1, er1, hb.mono _ _ _ _ _ (fun y δ2 h2 => h2.step s1) (fun _ _ z => z.step s1) h1⟩
  | false => exact h1 _ _ _ s1 er1 rfl
theorem pw_o (ha : PTD X B wx a t1) (hb : PWD X B wx (.BoolOp .Or (b :: rest) pos) t2) : PWD X B wx (.BoolOp .Or (a :: b :: rest) pos) (dOr t1 t2) := by
  refine ⟨mono_or ha.mono hb.mono, pw_imp (pw_or ha.run hb.run) fun σ H Q ⟨W, δ, er, q⟩ => ?_⟩
  refine ⟨W, δ, er, ha.mono _ _ _ _ _ (fun x δ1 h1 => ?_) (fun _ _ z => z) q⟩
  intro v1 H1 W1 s1 er1 r1
  subst r1
  cases v1 with
  | false => exact ⟨W1, δ1, er1, hb.mono _ _ _ _ _ (fun y δ2 h2 => h2.step s1) (fun _ _ z => z.step s1) h1⟩
  | true => exact h1 _ _ _ s1 er1 rfl
theorem pt_w (h : PWD X B wx a t1) : PTD X B wx a t1 := ⟨h.mono, h.run.pt⟩
/-! .. as values -/
def dAndV (f1 f2 : DE) : DE := fun δ Q E => f1 δ (fun d δ1 => match d with | .bl k => if k = true then f2 δ1 Q E else Q (.bl false) δ1 | _ => False) E
def dOrV (f1 f2 : DE) : DE := fun δ Q E => f1 δ (fun d δ1 => match d with | .bl k => if k = true then Q (.bl true) δ1 else f2 δ1 Q E | _ => False) E
def gNot : G1 := fun d Q => match d with
  | .bl k => Q (.bl (!k))
  | _ => False
theorem mono_andV (m : Mono f1) (m2 : Mono f2) : Mono (dAndV f1 f2) := fun δ Q Q' E E' k ke h => m _ _ _ _ _ (fun x δ1 h => by
  split at h
  · split at h
    · rename_i h1; simp only [h1, if_true]; exact m2 _ _ _ _ _ k ke h
    · rename_i h1; simp only [h1, if_false]; exact k _ _ h
  · exact h.elim) ke h
theorem mono_orV (m : Mono f1) (m2 : Mono f2) : Mono (dOrV f1 f2) := fun δ Q Q' E E' k ke h => m _ _ _ _ _ (fun x δ1 h => by
  split at h
  · split at h
    · rename_i h1; simp only [h1, if_true]; exact k _ _ h
    · rename_i h1; simp only [h1, if_false]; exact m2 _ _ _ _ _ k ke h
  · exact h.elim) ke h
theorem pd_1 {op} (ha : PD X B wx a f1) : PD X B wx (.BoolOp op [a] pos) f1 := ⟨ha.mono, pe_one ha.run⟩
theorem pd_and (ha : PD X B wx a f1) (hb : PD X B wx (.BoolOp .And (b :: rest) pos) f2) : PD X B wx (.BoolOp .And (a :: b :: rest) pos) (dAndV f1 f2) := by
  refine ⟨mono_andV ha.mono hb.mono, pe_imp (pe_and ha.run hb.run) fun σ H Q ⟨W, δ, er, q⟩ => ?_⟩
  refine ⟨W, δ, er, ha.mono _ _ _ _ _ (fun x δ1 h1 => ?_) (fun _ _ z => z) q⟩
  intro v1 H1 W1 s1 er1 r1
  split at h1
  · cases r1
    rename_i k
    refine ⟨k, rfl, ?_⟩
    cases k with
    | true => exact ⟨W1, δ1, er1, hb.mono _ _ _ _ _ (fun y δ2 h2 => h2.step s1) (fun _ _ z => z.step s1) h1⟩
    | false => exact h1 _ _ _ s1 er1 (.bl _)
  · exact h1.elim
theorem pd_or (ha : PD X B wx a f1) (hb : PD X B wx (.BoolOp .Or (b :: rest) pos) f2) : PD X B wx (.BoolOp .Or (a :: b :: rest) pos) (dOrV f1 f2) := by
  refine ⟨mono_orV ha.mono hb.mono, pe_imp (pe_or ha.run hb.run) fun σ H Q ⟨W, δ, er, q⟩ => ?_⟩
  refine ⟨W, δ, er, ha.mono _ _ _ _ _ (fun x δ1 h1 => ?_) (fun _ _ z => z) q⟩
  intro v1 H1 W1 s1 er1 r1
  split at h1
  · cases r1
    rename_i k
    refine ⟨k, rfl, ?_⟩
    cases k with
    | false => exact ⟨W1, δ1, er1, hb.mono _ _ _ _ _ (fun y δ2 h2 => h2.step s1) (fun _ _ z => z.step s1) h1⟩
    | true => exact h1 _ _ _ s1 er1 (.bl _)
  · exact h1.elim
theorem pd_nt (ha : PD X B wx a f1) : PD X B wx (.UnaryOp .Not a pos) (dUn gNot f1) := by
  refine ⟨mono_un ha.mono fun d Q Q' k q => ?_, pe_imp (pe_not ha.run) fun σ H Q ⟨W, δ, er, q⟩ => ?_⟩
  · unfold gNot at q ⊢
    split at q
    · exact k _ q
    · exact q.elim
  · refine ⟨W, δ, er, ha.mono _ _ _ _ _ (fun x δ1 h1 => ?_) (fun _ _ z => z) q⟩
    intro v1 H1 W1 s1 er1 r1
    unfold gNot at h1
    split at h1
    · cases r1
      exact ⟨_, rfl, h1 _ _ _ s1 er1 (.bl _)⟩
    · exact h1.elim
def dIf (t : DT) (f1 f2 : DE) : DE := fun δ Q E => t δ (fun b δ1 => if b = true then f1 δ1 Q E else f2 δ1 Q E) E
theorem pd_if (hc : PTD X B wx c t1) (ha : PD X B wx a f1) (hb : PD X B wx b f2) : PD X B wx (.IfExp c a b pos) (dIf t1 f1 f2) := by
  refine ⟨fun δ Q Q' E E' k ke h => hc.mono _ _ _ _ _ (fun x δ1 h => ?_) ke h, pe_imp (pe_ifExp hc.run ha.run hb.run) fun σ H Q ⟨W, δ, er, q⟩ => ?_⟩
  · cases x with
    | true => exact ha.mono _ _ _ _ _ k ke h
    | false => exact hb.mono _ _ _ _ _ k ke h
  · refine ⟨W, δ, er, hc.mono _ _ _ _ _ (fun x δ1 h1 => ?_) (fun _ _ z => z) q⟩
    intro v1 H1 W1 s1 er1 r1
    subst r1
    cases v1 with
    | true => exact ⟨W1, δ1, er1, ha.mono _ _ _ _ _ (fun y δ2 h2 => h2.step s1) (fun _ _ z => z.step s1) h1⟩
    | false => exact ⟨W1, δ1, er1, hb.mono _ _ _ _ _ (fun y δ2 h2 => h2.step s1) (fun _ _ z => z.step s1) h1⟩
/-! ### arguments, tuples, lists -/
variable {fa fb : DA}
def dNil : DA := fun δ Q _ => Q [] δ
def dCons (f : DE) (fa : DA) : DA := fun δ Q E => f δ (fun d δ1 => fa δ1 (fun ds δ2 => Q (d :: ds) δ2) E) E
theorem mono_cons (m : Mono f1) (m2 : Mono fa) : Mono (dCons f1 fa) := fun δ Q Q' E E' k ke h => m _ _ _ _ _ (fun x δ1 h => m2 _ _ _ _ _ (fun y δ2 h => k _ _ h) ke h) ke h
theorem pad_nil : PAD X B wx [] dNil := ⟨fun _ _ _ _ _ k _ h => k _ _ h, pa_imp pa_nil fun σ H Q ⟨W, δ, er, q⟩ => q [] H W .refl er .nil⟩
theorem pad_cons (ha : PD X B wx e f1) (hr : PAD X B wx es fa) (hs : starEach (e :: es) X.env = (false, eval e X.env) :: starEach es X.env := by rfl) : PAD X B wx (e :: es) (dCons f1 fa) := by
  refine ⟨mono_cons ha.mono hr.mono, pa_imp (pa_cons ha.run hr.run hs) fun σ H Q ⟨W, δ, er, q⟩ => ?_⟩
  refine ⟨W, δ, er, ha.mono _ _ _ _ _ (fun x δ1 h1 => ?_) (fun _ _ z => z) q⟩
  intro v1 H1 W1 s1 er1 r1
  refine ⟨W1, δ1, er1, hr.mono _ _ _ _ _ (fun y δ2 h2 => ?_) (fun _ _ z => z.step s1) h1⟩
  intro v2 H2 W2 s2 er2 r2
  exact h2 _ _ _ (s1.trans s2) er2 (.cons (r1.step s2) r2)
def dTup (fa : DA) : DE := fun δ Q E => fa δ (fun ds δ1 => ds.length ≤ sizeLine ∧ Q (.tup ds) δ1) E
def dLst (fa : DA) : DE := fun δ Q E => fa δ (fun ds δ1 => ds.length ≤ sizeLine ∧ Q (.lst ds) δ1) E
theorem pd_tup {x1} (h : PAD X B wx es fa) : PD X B wx (.Tuple es x1 pos) (dTup fa) := by
  refine ⟨fun δ Q Q' E E' k ke h' => h.mono _ _ _ _ _ (fun x δ1 h => ⟨h.1, k _ _ h.2⟩) ke h', pe_imp (pe_tup h.run) fun σ H Q ⟨W, δ, er, q⟩ => ?_⟩
  refine ⟨W, δ, er, h.mono _ _ _ _ _ (fun x δ1 h1 => ?_) (fun _ _ z => z) q⟩
  intro v1 H1 W1 s1 er1 r1
  refine ⟨by rw [r1.length]; exact h1.1, fun p hp => ?_⟩
  have sm : Same H1 (upd H1 p (.tup v1)) := same_new hp
  exact h1.2 _ _ _ (s1.trans (.same sm)) (er1.grow sm) (.tup (upd_same) (r1.step (.same sm)))
theorem pd_lst (h : PAD X B wx es fa) : PD X B wx (.List es pos) (dLst fa) := by
  refine ⟨fun δ Q Q' E E' k ke h' => h.mono _ _ _ _ _ (fun x δ1 h => ⟨h.1, k _ _ h.2⟩) ke h', pe_imp (pe_lst h.run) fun σ H Q ⟨W, δ, er, q⟩ => ?_⟩
  refine ⟨W, δ, er, h.mono _ _ _ _ _ (fun x δ1 h1 => ?_) (fun _ _ z => z) q⟩
  intro v1 H1 W1 s1 er1 r1
  refine ⟨by rw [r1.length]; exact h1.1, fun p hp => ?_⟩
  have sm : Same H1 (upd H1 p (.lst v1)) := same_new hp
  exact h1.2 _ _ _ (s1.trans (.same sm)) (er1.grow sm) (.lst (.inl ⟨.inl upd_same, not_trk er1.trk hp⟩) (r1.step (.same sm)))
/-- a fresh list -/
theorem pf_lst (h : PAD X B wx es fa) : PF X B wx (.List es pos) (dLst fa) := by
  refine ⟨fun δ Q Q' E E' k ke h' => h.mono _ _ _ _ _ (fun x δ1 h => ⟨h.1, k _ _ h.2⟩) ke h', pe_imp (pe_lst h.run) fun σ H Q ⟨W, δ, er, q⟩ => ?_⟩
  refine ⟨W, δ, er, h.mono _ _ _ _ _ (fun x δ1 h1 => ?_) (fun _ _ z => z) q⟩
  intro v1 H1 W1 s1 er1 r1
  refine ⟨by rw [r1.length]; exact h1.1, fun p hp => ?_⟩
  have sm : Same H1 (upd H1 p (.lst v1)) := same_new hp
  obtain ⟨er2, ns⟩ := er1.alloc sm hp ⟨_, upd_same⟩
  exact h1.2 p _ _ (s1.trans (.alloc sm hp)) er2 (s1.live p hp) (.inr rfl) ⟨v1, upd_same, r1.step (.alloc sm hp)⟩ ns
end
end DL

namespace DL
open PySem PySem.Spec PyProof.Rows L2
section
variable {X : Cx} {B : Bd} {wx : WX} {pos p : Pos} {a b c e : Expr} {es : List Expr} {f f1 f2 f3 : DE} {k : Nat} {fa : DA} {x : Str} {id : String}
/-- what is fresh may be read -/
theorem pd_fresh (h : PF X B wx e f) : PD X B wx e f := ⟨h.mono, pe_imp h.run fun σ H Q ⟨W, δ, er, q⟩ => ⟨W, δ, er, h.mono _ _ _ _ _ (fun d δ1 h1 a H1 W1 s1 er1 hn wa o ns => by
  have er2 := er1.unguard ns (er.w0 hn)
  exact h1 (.ref a) H1 _ (s1.trans .sub) er2 ((Own.sub o).rep fun z => z.2 rfl)) (fun _ _ z => z) q⟩⟩
/-! ### built-ins by name -/
abbrev GA := List D → (D → Prop) → Prop
def MonoG (g : GA) : Prop := ∀ d (Q Q' : D → Prop), (∀ z, Q z → Q' z) → g d Q → g d Q'
structure CallD (K : PySem.W.Frag) (r : List V → Hp → VK → Prop) (g : GA) : Prop where
  mono : MonoG g
  run : ∀ W H xs ds Q, (∀ a, W a → ∃ o, H a = some o) → Reps K W H xs ds → g ds (Gw K W H Q) → r xs H Q
def Fw (K : PySem.W.Frag) (W : AS) (H : Hp) (Q : VK) (z : D) : Prop := ∀ a H', Same H H' → H a = Option.none → Own K (addW W a) H' a z → Q (.ref a) H'
structure CallF (K : PySem.W.Frag) (r : List V → Hp → VK → Prop) (g : GA) : Prop where
  mono : MonoG g
  run : ∀ W H xs ds Q, (∀ a, W a → ∃ o, H a = some o) → Reps K W H xs ds → g ds (Fw K W H Q) → r xs H Q
def dCB (g : GA) (fa : DA) : DE := fun δ Q E => fa δ (fun ds δ1 => g ds fun z => Q z δ1) E
theorem mono_cb {g : GA} (m : Mono fa) (mg : MonoG g) : Mono (dCB g fa) := fun δ Q Q' E E' k ke h => m _ _ _ _ _ (fun x δ1 h => mg _ _ _ (fun z h => k _ _ h) h) ke h
theorem cb_run {K : PySem.W.Frag} {g : GA} {r : List V → Hp → VK → Prop} (hd : CallD K r g) (m1 : Mono fa) (σ : L2.St) (H : Hp) (Q : VK) (h : liftE K B wx (dCB g fa) σ H Q) : tCB r (liftA K B wx fa) σ H Q := by
  obtain ⟨W, δ, er, q⟩ := h
  refine ⟨W, δ, er, m1 _ _ _ _ _ (fun x δ1 h1 => ?_) (fun _ _ z => z) q⟩
  intro v1 H1 W1 s1 er1 r1
  refine hd.run W1 H1 v1 x Q er1.trk r1 (hd.mono _ _ _ (fun z hz => ?_) h1)
  intro v H3 sm rz
  exact hz v H3 W1 (s1.trans (.same sm)) (er1.grow sm) rz
theorem cbf_run {K : PySem.W.Frag} {g : GA} {r : List V → Hp → VK → Prop} (hd : CallF K r g) (m1 : Mono fa) (σ : L2.St) (H : Hp) (Q : VK) (h : liftF K B wx (dCB g fa) σ H Q) : tCB r (liftA K B wx fa) σ H Q := by
  obtain ⟨W, δ, er, q⟩ := h
  refine ⟨W, δ, er, m1 _ _ _ _ _ (fun x δ1 h1 => ?_) (fun _ _ z => z) q⟩
  intro v1 H1 W1 s1 er1 r1
  refine hd.run W1 H1 v1 x Q er1.trk r1 (hd.mono _ _ _ (fun z hz => ?_) h1)
  intro a H3 sm hn o
  obtain ⟨er2, ns⟩ := er1.alloc sm hn o.some
  exact hz a H3 _ (s1.trans (.alloc sm hn)) er2 (s1.live a hn) (.inr rfl) o ns
theorem pd_cb {r : List V → Hp → VK → Prop} {g : GA} (hc : CallR X (.builtin id) r) (hd : CallD X.K r g) (hg : Gl X x) (hm : X.mg x = none) (hv : bootBuiltins x = some (.builtin id)) (ha : PAD X B wx (e :: es) fa) (hn : x ≠ "__name__" := by decide) (hdb : (x == ("__debug__" : Str)) = false := by decide)
    (he : starEach (e :: es) X.env = (false, eval e X.env) :: starEach es X.env := by rfl) (hpl : (backTo pos (starEach es X.env)).any (·.1) = false := by rfl) : PD X B wx (.Call (.Name x p) (e :: es) [] pos) (dCB g fa) :=
  ⟨mono_cb ha.mono hd.mono, pe_imp (pe_callB hc hg hm hv ha.run hn hdb he hpl) (cb_run hd ha.mono)⟩
theorem pd_ct {r : List V → Hp → VK → Prop} {g : GA} (hc : CallR X (.type id) r) (hd : CallD X.K r g) (hg : Gl X x) (hm : X.mg x = none) (hv : bootBuiltins x = some (.type id)) (ha : PAD X B wx (e :: es) fa) (hn : x ≠ "__name__" := by decide) (hdb : (x == ("__debug__" : Str)) = false := by decide)
    (he : starEach (e :: es) X.env = (false, eval e X.env) :: starEach es X.env := by rfl) (hpl : (backTo pos (starEach es X.env)).any (·.1) = false := by rfl) : PD X B wx (.Call (.Name x p) (e :: es) [] pos) (dCB g fa) :=
  ⟨mono_cb ha.mono hd.mono, pe_imp (pe_callTy hc hg hm hv ha.run hn hdb he hpl) (cb_run hd ha.mono)⟩
theorem pf_cb {r : List V → Hp → VK → Prop} {g : GA} (hc : CallR X (.builtin id) r) (hd : CallF X.K r g) (hg : Gl X x) (hm : X.mg x = none) (hv : bootBuiltins x = some (.builtin id)) (ha : PAD X B wx (e :: es) fa) (hn : x ≠ "__name__" := by decide) (hdb : (x == ("__debug__" : Str)) = false := by decide)
    (he : starEach (e :: es) X.env = (false, eval e X.env) :: starEach es X.env := by rfl) (hpl : (backTo pos (starEach es X.env)).any (·.1) = false := by rfl) : PF X B wx (.Call (.Name x p) (e :: es) [] pos) (dCB g fa) :=
  ⟨mono_cb ha.mono hd.mono, pe_imp (pe_callB hc hg hm hv ha.run hn hdb he hpl) (cbf_run hd ha.mono)⟩
theorem pf_ct {r : List V → Hp → VK → Prop} {g : GA} (hc : CallR X (.type id) r) (hd : CallF X.K r g) (hg : Gl X x) (hm : X.mg x = none) (hv : bootBuiltins x = some (.type id)) (ha : PAD X B wx (e :: es) fa) (hn : x ≠ "__name__" := by decide) (hdb : (x == ("__debug__" : Str)) = false := by decide)
    (he : starEach (e :: es) X.env = (false, eval e X.env) :: starEach es X.env := by rfl) (hpl : (backTo pos (starEach es X.env)).any (·.1) = false := by rfl) : PF X B wx (.Call (.Name x p) (e :: es) [] pos) (dCB g fa) :=
  ⟨mono_cb ha.mono hd.mono, pe_imp (pe_callTy hc hg hm hv ha.run hn hdb he hpl) (cbf_run hd ha.mono)⟩
/-! len, abs, min, max, int -/
def gLen : GA := fun ds Q => match ds with
  | [.lst xs] => Q (.int (xs.length : Int))
  | [.tup xs] => Q (.int (xs.length : Int))
  | _ => False
theorem cd_len {K : PySem.W.Frag} : CallD K (fun xs H Q => ∃ p ys, xs = [.ref p] ∧ (SqL K H p ys ∨ SqT K H p ys) ∧ Q (.int ys.length) H) gLen where
  mono := fun d Q Q' k q => by
    unfold gLen at q ⊢
    split at q
    · exact k _ q
    · exact k _ q
    · exact q.elim
  run := fun W H xs ds Q t r q => by
    unfold gLen at q
    split at q
    · cases r with
      | cons r rr =>
        cases rr
        cases r with
        | lst l rs =>
          refine ⟨_, _, rfl, .inl l.sq, ?_⟩
          rw [rs.length]; exact q _ H (Same.refl H) (.int _)
    · cases r with
      | cons r rr =>
        cases rr
        cases r with
        | tup l rs =>
          refine ⟨_, _, rfl, .inr l.sq, ?_⟩
          rw [rs.length]; exact q _ H (Same.refl H) (.int _)
    · exact q.elim
def g1I (h : Int → D) : GA := fun ds Q => match ds with
  | [.int i] => Q (h i)
  | _ => False
def g2I (h : Int → Int → D) : GA := fun ds Q => match ds with
  | [.int i, .int j] => Q (h i j)
  | _ => False
theorem cd_1I {K : PySem.W.Frag} {h : Int → V} {h' : Int → D} (hh : ∀ W H i, Rep K W H (h i) (h' i)) : CallD K (fun xs H Q => ∃ i, xs = [.int i] ∧ Q (h i) H) (g1I h') where
  mono := fun d Q Q' k q => by
    unfold g1I at q ⊢
    split at q
    · exact k _ q
    · exact q.elim
  run := fun W H xs ds Q t r q => by
    unfold g1I at q
    split at q
    · cases r with
      | cons r rr => cases rr; cases r; exact ⟨_, rfl, q _ H (Same.refl H) (hh W H _)⟩
    · exact q.elim
theorem cd_2I {K : PySem.W.Frag} {h : Int → Int → V} {h' : Int → Int → D} (hh : ∀ W H i j, Rep K W H (h i j) (h' i j)) : CallD K (fun xs H Q => ∃ i j, xs = [.int i, .int j] ∧ Q (h i j) H) (g2I h') where
  mono := fun d Q Q' k q => by
    unfold g2I at q ⊢
    split at q
    · exact k _ q
    · exact q.elim
  run := fun W H xs ds Q t r q => by
    unfold g2I at q
    split at q
    · cases r with
      | cons r rr => cases rr with | cons r2 rr => cases rr; cases r; cases r2; exact ⟨_, _, rfl, q _ H (Same.refl H) (hh W H _ _)⟩
    · exact q.elim
def gInt : GA := fun ds Q => match ds with
  | [.int i] => Q (.int i)
  | [.bl b] => Q (.int (if b then 1 else 0))
  | _ => False
theorem cd_int {K : PySem.W.Frag} : CallD K (fun xs H Q => (∃ i, xs = [.int i] ∧ Q (.int i) H) ∨ ∃ k, xs = [.bl k] ∧ Q (.int (if k then 1 else 0)) H) gInt where
  mono := fun d Q Q' k q => by
    unfold gInt at q ⊢
    split at q
    · exact k _ q
    · exact k _ q
    · exact q.elim
  run := fun W H xs ds Q t r q => by
    unfold gInt at q
    split at q
    · cases r with
      | cons r rr => cases rr; cases r; exact .inl ⟨_, rfl, q _ H (Same.refl H) (.int _)⟩
    · cases r with
      | cons r rr => cases rr; cases r; exact .inr ⟨_, rfl, q _ H (Same.refl H) (.int _)⟩
    · exact q.elim
def gAbs : GA := g1I fun i => .int (if i < 0 then -i else i)
def gMax2 : GA := g2I fun i j => .int (if j > i then j else i)
def gMin2 : GA := g2I fun i j => .int (if j < i then j else i)
theorem pd_len (hg : Gl X "len") (hm : X.mg "len" = none) (ha : PAD X B wx [e] fa) (he : starEach [e] X.env = (false, eval e X.env) :: starEach [] X.env := by rfl) (hpl : (backTo pos (starEach [] X.env)).any (·.1) = false := by rfl) :
    PD X B wx (.Call (.Name "len" p) [e] [] pos) (dCB gLen fa) := pd_cb call_len_seq cd_len hg hm boot_len ha (by decide) (by decide) he hpl
theorem pd_abs (hg : Gl X "abs") (hm : X.mg "abs" = none) (ha : PAD X B wx [e] fa) (he : starEach [e] X.env = (false, eval e X.env) :: starEach [] X.env := by rfl) (hpl : (backTo pos (starEach [] X.env)).any (·.1) = false := by rfl) :
    PD X B wx (.Call (.Name "abs" p) [e] [] pos) (dCB gAbs fa) := pd_cb call_abs (cd_1I fun _ _ _ => .int _) hg hm (by decide +kernel) ha (by decide) (by decide) he hpl
theorem pd_max2 (hc : X.calm = true) (hg : Gl X "max") (hm : X.mg "max" = none) (ha : PAD X B wx [a, b] fa) (he : starEach [a, b] X.env = (false, eval a X.env) :: starEach [b] X.env := by rfl) (hpl : (backTo pos (starEach [b] X.env)).any (·.1) = false := by rfl) :
    PD X B wx (.Call (.Name "max" p) [a, b] [] pos) (dCB gMax2 fa) := pd_cb (call_max2 hc) (cd_2I fun _ _ _ _ => .int _) hg hm (by decide +kernel) ha (by decide) (by decide) he hpl
theorem pd_min2 (hc : X.calm = true) (hg : Gl X "min") (hm : X.mg "min" = none) (ha : PAD X B wx [a, b] fa) (he : starEach [a, b] X.env = (false, eval a X.env) :: starEach [b] X.env := by rfl) (hpl : (backTo pos (starEach [b] X.env)).any (·.1) = false := by rfl) :
    PD X B wx (.Call (.Name "min" p) [a, b] [] pos) (dCB gMin2 fa) := pd_cb (call_min2 hc) (cd_2I fun _ _ _ _ => .int _) hg hm (by decide +kernel) ha (by decide) (by decide) he hpl
theorem pd_toint (hg : Gl X "int") (hm : X.mg "int" = none) (ha : PAD X B wx [e] fa) (he : starEach [e] X.env = (false, eval e X.env) :: starEach [] X.env := by rfl) (hpl : (backTo pos (starEach [] X.env)).any (·.1) = false := by rfl) :
    PD X B wx (.Call (.Name "int" p) [e] [] pos) (dCB gInt fa) := pd_ct call_int1 cd_int hg hm (by decide +kernel) ha (by decide) (by decide) he hpl
/-! list(x), all, any, sum, max, min of a list -/
def gList : GA := fun ds Q => match ds with
  | [.lst xs] => Q (.lst xs)
  | [.tup xs] => Q (.lst xs)
  | _ => False
theorem cf_list {K : PySem.W.Frag} : CallF K (fun xs H Q => ∃ p ys, xs = [.ref p] ∧ (SqL K H p ys ∨ SqT K H p ys) ∧ ∀ l, H l = none → Q (.ref l) (upd H l (.lst ys))) gList where
  mono := fun d Q Q' k q => by
    unfold gList at q ⊢
    split at q
    · exact k _ q
    · exact k _ q
    · exact q.elim
  run := fun W H xs ds Q t r q => by
    unfold gList at q
    split at q
    · cases r with
      | cons r rr =>
        cases rr
        cases r with
        | lst l rs => exact ⟨_, _, rfl, .inl l.sq, fun p hp => q p _ (same_new hp) hp ⟨_, upd_same, rs.step (.alloc (same_new hp) hp)⟩⟩
    · cases r with
      | cons r rr =>
        cases rr
        cases r with
        | tup l rs => exact ⟨_, _, rfl, .inr l.sq, fun p hp => q p _ (same_new hp) hp ⟨_, upd_same, rs.step (.alloc (same_new hp) hp)⟩⟩
    · exact q.elim
theorem pf_list (hg : Gl X "list") (hm : X.mg "list" = none) (ha : PAD X B wx [e] fa) (he : starEach [e] X.env = (false, eval e X.env) :: starEach [] X.env := by rfl) (hpl : (backTo pos (starEach [] X.env)).any (·.1) = false := by rfl) :
    PF X B wx (.Call (.Name "list" p) [e] [] pos) (dCB gList fa) := pf_ct call_list_of cf_list hg hm (by decide +kernel) ha (by decide) (by decide) he hpl
/-- the truths, the ints of a list -/
def blsOf : List D → Option (List Bool)
  | [] => some []
  | .bl b :: ds => (blsOf ds).map (b :: ·)
  | _ => none
def intsOf : List D → Option (List Int)
  | [] => some []
  | .int b :: ds => (intsOf ds).map (b :: ·)
  | _ => none
theorem blsOf_eq : ∀ {ds : List D} {bs : List Bool}, blsOf ds = some bs → ds = bs.map D.bl
  | [], _, h => by cases h; rfl
  | .bl b :: ds, bs, h => by
    simp only [blsOf, Option.map_eq_some_iff] at h
    obtain ⟨cs, h, rfl⟩ := h
    rw [blsOf_eq h]; rfl
  | .non :: _, _, h => by cases h
  | .int _ :: _, _, h => by cases h
  | .str _ :: _, _, h => by cases h
  | .lst _ :: _, _, h => by cases h
  | .tup _ :: _, _, h => by cases h
  | .dct _ :: _, _, h => by cases h
  | .exc _ _ :: _, _, h => by cases h
  | .dtt _ :: _, _, h => by cases h
theorem intsOf_eq : ∀ {ds : List D} {bs : List Int}, intsOf ds = some bs → ds = bs.map D.int
  | [], _, h => by cases h; rfl
  | .int b :: ds, bs, h => by
    simp only [intsOf, Option.map_eq_some_iff] at h
    obtain ⟨cs, h, rfl⟩ := h
    rw [intsOf_eq h]; rfl
  | .non :: _, _, h => by cases h
  | .bl _ :: _, _, h => by cases h
  | .str _ :: _, _, h => by cases h
  | .lst _ :: _, _, h => by cases h
  | .tup _ :: _, _, h => by cases h
  | .dct _ :: _, _, h => by cases h
  | .exc _ _ :: _, _, h => by cases h
  | .dtt _ :: _, _, h => by cases h
theorem blsOf_map : ∀ (bs : List Bool), blsOf (bs.map D.bl) = some bs
  | [] => rfl
  | b :: bs => by simp [blsOf, blsOf_map bs]
theorem intsOf_map : ∀ (bs : List Int), intsOf (bs.map D.int) = some bs
  | [] => rfl
  | b :: bs => by simp [intsOf, intsOf_map bs]
theorem Reps.bls {K : PySem.W.Frag} {W : AS} {H : Hp} : ∀ {vs : List V} {ns : List Bool}, Reps K W H vs (ns.map D.bl) → vs = ns.map V.bl
  | [], [], _ => rfl
  | [], _ :: _, h => by cases h
  | _ :: _, [], h => by cases h
  | v :: vs, n :: ns, h => by
    cases h with
    | cons a b => rw [a.bl', Reps.bls b]; rfl
def gBls (h : List Bool → D) : GA := fun ds Q => match ds with
  | [.lst xs] => ∃ bs, blsOf xs = some bs ∧ Q (h bs)
  | _ => False
theorem cd_bls {K : PySem.W.Frag} {r : List V → Hp → VK → Prop} {h : List Bool → D} {h' : List Bool → V} (hh : ∀ W H i, Rep K W H (h' i) (h i)) (hr : ∀ H Q (a : Addr) (bs : List Bool), SqL K H a (bs.map V.bl) → Q (h' bs) H → r [.ref a] H Q) : CallD K r (gBls h) where
  mono := fun d Q Q' k q => by
    unfold gBls at q ⊢
    split at q
    · obtain ⟨bs, e, q⟩ := q; exact ⟨bs, e, k _ q⟩
    · exact q.elim
  run := fun W H xs ds Q t r q => by
    unfold gBls at q
    split at q
    · obtain ⟨bs, e, q⟩ := q
      cases r with
      | cons r rr =>
        cases rr
        cases r with
        | lst l rs =>
          rw [blsOf_eq e] at rs
          rw [rs.bls] at l
          exact hr H Q _ bs l.sq (q _ H (Same.refl H) (hh W H _))
    · exact q.elim
theorem pd_all (hc : X.calm = true) (hg : Gl X "all") (hm : X.mg "all" = none) (ha : PAD X B wx [e] fa) (he : starEach [e] X.env = (false, eval e X.env) :: starEach [] X.env := by rfl) (hpl : (backTo pos (starEach [] X.env)).any (·.1) = false := by rfl) :
    PD X B wx (.Call (.Name "all" p) [e] [] pos) (dCB (gBls fun bs => .bl (bs.all _root_.id)) fa) := pd_cb (cr_all hc) (cd_bls (h' := fun bs => .bl (bs.all _root_.id)) (fun _ _ _ => .bl _) fun H Q a bs l q => ⟨a, bs, rfl, l, q⟩) hg hm (by decide +kernel) ha (by decide) (by decide) he hpl
theorem pd_any (hc : X.calm = true) (hg : Gl X "any") (hm : X.mg "any" = none) (ha : PAD X B wx [e] fa) (he : starEach [e] X.env = (false, eval e X.env) :: starEach [] X.env := by rfl) (hpl : (backTo pos (starEach [] X.env)).any (·.1) = false := by rfl) :
    PD X B wx (.Call (.Name "any" p) [e] [] pos) (dCB (gBls fun bs => .bl (bs.any _root_.id)) fa) := pd_cb (cr_any hc) (cd_bls (h' := fun bs => .bl (bs.any _root_.id)) (fun _ _ _ => .bl _) fun H Q a bs l q => ⟨a, bs, rfl, l, q⟩) hg hm (by decide +kernel) ha (by decide) (by decide) he hpl
/-! max, min of a list of ints -/
def gExt (le : Int → Int → Prop) : GA := fun ds Q => match ds with
  | [.lst xs] => ∃ ns, intsOf xs = some ns ∧ 0 < ns.length ∧ ∀ m, m ∈ ns → (∀ y, y ∈ ns → le y m) → Q (.int m)
  | _ => False
theorem cd_ext {K : PySem.W.Frag} {le : Int → Int → Prop} {r : List V → Hp → VK → Prop} (hr : ∀ H Q (a : Addr) (ns : List Int), SqL K H a (ns.map V.int) → 0 < ns.length → (∀ m, m ∈ ns → (∀ y, y ∈ ns → le y m) → Q (.int m) H) → r [.ref a] H Q) : CallD K r (gExt le) where
  mono := fun d Q Q' k q => by
    unfold gExt at q ⊢
    split at q
    · obtain ⟨bs, e, l, q⟩ := q; exact ⟨bs, e, l, fun m h1 h2 => k _ (q m h1 h2)⟩
    · exact q.elim
  run := fun W H xs ds Q t r q => by
    unfold gExt at q
    split at q
    · obtain ⟨bs, e, l0, q⟩ := q
      cases r with
      | cons r rr =>
        cases rr
        cases r with
        | lst l rs =>
          rw [intsOf_eq e] at rs
          rw [rs.ints] at l
          exact hr H Q _ bs l.sq l0 fun m h1 h2 => q m h1 h2 _ H (Same.refl H) (.int _)
    · exact q.elim
theorem pd_max (hc : X.calm = true) (hg : Gl X "max") (hm : X.mg "max" = none) (ha : PAD X B wx [e] fa) (he : starEach [e] X.env = (false, eval e X.env) :: starEach [] X.env := by rfl) (hpl : (backTo pos (starEach [] X.env)).any (·.1) = false := by rfl) :
    PD X B wx (.Call (.Name "max" p) [e] [] pos) (dCB (gExt fun y m => y ≤ m) fa) := pd_cb (cr_max hc) (cd_ext fun H Q a bs l l0 q => ⟨a, bs, rfl, l, l0, q⟩) hg hm (by decide +kernel) ha (by decide) (by decide) he hpl
theorem pd_min (hc : X.calm = true) (hg : Gl X "min") (hm : X.mg "min" = none) (ha : PAD X B wx [e] fa) (he : starEach [e] X.env = (false, eval e X.env) :: starEach [] X.env := by rfl) (hpl : (backTo pos (starEach [] X.env)).any (·.1) = false := by rfl) :
    PD X B wx (.Call (.Name "min" p) [e] [] pos) (dCB (gExt fun y m => m ≤ y) fa) := pd_cb (cr_min hc) (cd_ext fun H Q a bs l l0 q => ⟨a, bs, rfl, l, l0, q⟩) hg hm (by decide +kernel) ha (by decide) (by decide) he hpl
/-! isinstance(x, T), T a built-in class -/
def tyD : D → String
  | .non => "NoneType"
  | .bl _ => "bool"
  | .int _ => "int"
  | .str _ => "str"
  | .lst _ => "list"
  | .tup _ => "tuple"
  | .dct _ => "dict"
  | .exc _ _ => "BaseException"
  | .dtt _ => "dict"
def isExc : D → Bool
  | .exc _ _ => true
  | _ => false
theorem Rep.ty {K : PySem.W.Frag} {W : AS} {H : Hp} {v : V} {d : D} (h : Rep K W H v d) (ne : isExc d = false) : TyX K H v (.type (tyD d)) := by
  cases h with
  | non => exact .base .non
  | bl b => exact .base (.bl b)
  | int b => exact .base (.int b)
  | str b => exact .base (.str b)
  | lst l r =>
    rcases l with ⟨h | ⟨o, h⟩, _⟩ | h | ⟨o, its, n, h, c, _⟩
    · exact .base (.lst h)
    · exact .base (.frz h)
    · exact (rd_none h).elim
    · exact .kList h c
  | tup l r => exact .base (.tup l)
  | dct h n r => exact .base (.dK h)
  | dtt h n r => exact .base (.dT h)
  | exc0 h n => cases ne
  | exc1 h n h2 n2 r => cases ne
def gIsi (T : String) : G1 := fun d Q => isExc d = false ∧ ∃ k, kitB (tyD d) T = some k ∧ Q (.bl k)
theorem pd_isi {T : String} {y : Str} {p2 : Pos} (hg : Gl X "isinstance") (hm : X.mg "isinstance" = none) (ha : PD X B wx a f1) (hgT : Gl X y) (hmT : X.mg y = none) (hvT : bootBuiltins y = some (.type T))
    (hs1 : starEach [a, .Name y p2] X.env = (false, eval a X.env) :: starEach [.Name y p2] X.env := by rfl) (hs2 : starEach [.Name y p2] X.env = (false, eval (.Name y p2) X.env) :: starEach [] X.env := by rfl)
    (hpl : (backTo pos (starEach [.Name y p2] X.env)).any (·.1) = false := by rfl) (hn : y ≠ "__name__" := by decide) (hdb : (y == ("__debug__" : Str)) = false := by decide) :
    PD X B wx (.Call (.Name "isinstance" p) [a, .Name y p2] [] pos) (dUn (gIsi T) f1) := by
  refine ⟨mono_un ha.mono fun d Q Q' k ⟨ne, b, e, q⟩ => ⟨ne, b, e, k _ q⟩, pe_imp (pe_callB call_isi hg hm (by decide +kernel) (pa_cons ha.run (pa_cons (pe_bltn (v := .ty T) hgT hmT hvT rfl hn hdb) pa_nil hs2) hs1) (by decide) (by decide) hs1 hpl) fun σ H Q ⟨W, δ, er, q⟩ => ?_⟩
  refine ⟨W, δ, er, ha.mono _ _ _ _ _ (fun x δ1 h1 => ?_) (fun _ _ z => z) q⟩
  intro v1 H1 W1 s1 er1 r1
  obtain ⟨ne, k, e, h1⟩ := h1
  exact ⟨v1, _, _, _, k, rfl, .ty T, r1.ty ne, kit_ty e, h1 _ _ _ s1 er1 (.bl _)⟩
/-! ### calls of the text's own defs -/
abbrev FD := List D → (D → Prop) → (XD → Prop) → Prop
def MonoF (g : FD) : Prop := ∀ ds (Q Q' : D → Prop) (E E' : XD → Prop), (∀ z, Q z → Q' z) → (∀ z, E z → E' z) → g ds Q E → g ds Q' E'
def Rf (fr : Bool) (K : PySem.W.Frag) (H : Hp) (W : AS) (H' : Hp) (v : V) (d : D) : Prop := if fr = true then ∃ a, v = .ref a ∧ H a = Option.none ∧ Own K (addW W a) H' a d else Rep K W H' v d
def spD (K : PySem.W.Frag) (fr : Bool) (g : FD) : Sp := fun vs H Q E => ∃ W ds, (∀ a, W a → ∃ o, H a = some o) ∧ Reps K W H vs ds ∧
  g ds (fun d => ∀ v H', Same H H' → Rf fr K H W H' v d → Q v H') (fun x => ∀ cls dd H', Same H H' → XR K W H' cls dd x → E cls dd H')
def dCall (g : FD) (fa : DA) : DE := fun δ Q E => fa δ (fun ds δ1 => g ds (fun z => Q z δ1) (fun x => E x δ1)) E
theorem mono_call {g : FD} (m : Mono fa) (mg : MonoF g) : Mono (dCall g fa) := fun δ Q Q' E E' k ke h => m _ _ _ _ _ (fun x δ1 h => mg _ _ _ _ _ (fun z h => k _ _ h) (fun z h => ke _ _ h) h) ke h
theorem call_run {K : PySem.W.Frag} {g : FD} (mg : MonoF g) (m1 : Mono fa) (σ : L2.St) (H : Hp) (Q : VK) (h : liftE K B wx (dCall g fa) σ H Q) : tCallS (spD K false g) (WE wx) (liftA K B wx fa) σ H Q := by
  obtain ⟨W, δ, er, q⟩ := h
  refine ⟨W, δ, er, m1 _ _ _ _ _ (fun x δ1 h1 => ?_) (fun _ _ z => z) q⟩
  intro v1 H1 W1 s1 er1 r1
  refine ⟨W1, x, er1.trk, r1, mg _ _ _ _ _ (fun z hz v H' sm rz => ?_) (fun z hz cls dd H' sm rz => ?_) h1⟩
  · exact hz v H' W1 (s1.trans (.same sm)) (er1.grow sm) rz
  · exact hz cls dd H' W1 (s1.trans (.same sm)) (er1.grow sm) rz
theorem callf_run {K : PySem.W.Frag} {g : FD} (mg : MonoF g) (m1 : Mono fa) (σ : L2.St) (H : Hp) (Q : VK) (h : liftF K B wx (dCall g fa) σ H Q) : tCallS (spD K true g) (WE wx) (liftA K B wx fa) σ H Q := by
  obtain ⟨W, δ, er, q⟩ := h
  refine ⟨W, δ, er, m1 _ _ _ _ _ (fun x δ1 h1 => ?_) (fun _ _ z => z) q⟩
  intro v1 H1 W1 s1 er1 r1
  refine ⟨W1, x, er1.trk, r1, mg _ _ _ _ _ (fun z hz v H' sm rz => ?_) (fun z hz cls dd H' sm rz => ?_) h1⟩
  · obtain ⟨a, rfl, hn, o⟩ := (show ∃ a, v = .ref a ∧ H1 a = Option.none ∧ Own K (addW W1 a) H' a z from rz)
    obtain ⟨er2, ns⟩ := er1.alloc sm hn o.some
    exact hz a H' _ (s1.trans (.alloc sm hn)) er2 (s1.live a hn) (.inr rfl) o ns
  · exact hz cls dd H' W1 (s1.trans (.same sm)) (er1.grow sm) rz
variable {fn : Addr} {fd : FuncData} {ps : List Str} {g : FD}
theorem pass00 {E : L2.St → XK} : ∀ σ, PassesAt CX0 X σ (E σ) := fun _ _ _ _ _ _ _ h => h.elim
theorem pd_call (mg : MonoF g) (F : FnOk X.prog X.w X.K X.mg X.base CX0 k fn fd ps (spD X.K false g)) (hr : Room k X.A) (hg : Gl X x) (hm : X.mg x = some (.ref fn)) (hk : PySem.W.keepIn X.K (.ref fn) = true) (hb : Binds X.K fd ps [])
    (ha : PAD X B wx (e :: es) fa) (hdb : (x == ("__debug__" : Str)) = false := by decide) (he : starEach (e :: es) X.env = (false, eval e X.env) :: starEach es X.env := by rfl) (hpl : (backTo pos (starEach es X.env)).any (·.1) = false := by rfl) :
    PD X B wx (.Call (.Name x p) (e :: es) [] pos) (dCall g fa) := ⟨mono_call ha.mono mg, pe_imp (pe_callS F hr hg hm hk hb pass00 ha.run hdb he hpl) (call_run mg ha.mono)⟩
theorem pd_callX (tk : Takes X wx) (mg : MonoF g) (F : FnOk X.prog X.w X.K X.mg X.base (L2.CX X.prog X.w) k fn fd ps (spD X.K false g)) (hr : Room k X.A) (hg : Gl X x) (hm : X.mg x = some (.ref fn)) (hk : PySem.W.keepIn X.K (.ref fn) = true) (hb : Binds X.K fd ps [])
    (ha : PAD X B wx (e :: es) fa) (hdb : (x == ("__debug__" : Str)) = false := by decide) (he : starEach (e :: es) X.env = (false, eval e X.env) :: starEach es X.env := by rfl) (hpl : (backTo pos (starEach es X.env)).any (·.1) = false := by rfl) :
    PD X B wx (.Call (.Name x p) (e :: es) [] pos) (dCall g fa) := ⟨mono_call ha.mono mg, pe_imp (pe_callS F hr hg hm hk hb (fun σ => passAt tk σ) ha.run hdb he hpl) (call_run mg ha.mono)⟩
theorem pf_call (mg : MonoF g) (F : FnOk X.prog X.w X.K X.mg X.base CX0 k fn fd ps (spD X.K true g)) (hr : Room k X.A) (hg : Gl X x) (hm : X.mg x = some (.ref fn)) (hk : PySem.W.keepIn X.K (.ref fn) = true) (hb : Binds X.K fd ps [])
    (ha : PAD X B wx (e :: es) fa) (hdb : (x == ("__debug__" : Str)) = false := by decide) (he : starEach (e :: es) X.env = (false, eval e X.env) :: starEach es X.env := by rfl) (hpl : (backTo pos (starEach es X.env)).any (·.1) = false := by rfl) :
    PF X B wx (.Call (.Name x p) (e :: es) [] pos) (dCall g fa) := ⟨mono_call ha.mono mg, pe_imp (pe_callS F hr hg hm hk hb pass00 ha.run hdb he hpl) (callf_run mg ha.mono)⟩
end
end DL

namespace DL
open PySem PySem.Spec PyProof.Rows L2
section
variable {K : PySem.W.Frag} {B : Bd} {W : AS} {σ : L2.St} {H H' : Hp} {δ : DEnv}
theorem Step.write {a : Addr} {o : HO} (w : W a) (nt : ∀ xs : List V, H a = some (.tup xs) → False) : Step W H W (upd H a o) := ⟨fun b u hb n => by
    have ne : b ≠ a := fun z => by subst z; exact n w
    rw [upd_ne ne]; exact hb, fun _ z => .inl z, fun b z => by
    by_cases e : b = a
    · rw [e, upd_same] at z; cases z
    · rw [upd_ne e] at z; exact z, fun b xs hb => by
    have ne : b ≠ a := fun z => by subst z; exact nt xs hb
    rw [upd_ne ne]; exact hb⟩
/-- slot i holds a thing that may be changed here -/
def ownAt (δ : DEnv) (i : Nat) : Option D := match δ[i]? with
  | some (.own d) => some d
  | some (.lent d) => some d
  | _ => none
/-- it is changed to d -/
def putAt (δ : DEnv) (i : Nat) (d : D) : DEnv := match δ[i]? with
  | some (.lent _) => δ.set i (.lent d)
  | _ => δ.set i (.own d)
theorem ER.ownAt (er : ER K B W σ H δ) {i : Nat} {d : D} (h : ownAt δ i = some d) : ∃ a, σ[i]? = some (some (.ref a)) ∧ W a ∧ Own K W H a d ∧ (B.H0 a = Option.none ∨ B.M0 a) := by
  unfold DL.ownAt at h
  split at h
  · rename_i e hd
    cases h
    obtain ⟨a, q, w, n, o⟩ := er.own i d hd
    exact ⟨a, q, w, o, .inl n⟩
  · rename_i e hd
    cases h
    obtain ⟨a, q, m, o⟩ := er.lent i d hd
    exact ⟨a, q, er.sup a (B.m0 a m), o, .inr m⟩
  · cases h
/-- the thing at slot i's address is written -/
theorem ER.write (er : ER K B W σ H δ) {i : Nat} {d d' : D} {a : Addr} (h : DL.ownAt δ i = some d) (ha : σ[i]? = some (some (.ref a))) (k : ∀ b o, H b = some o → b ≠ a → H' b = some o) (o' : Own K W H' a d') :
    ER K B W σ H' (putAt δ i d') ∧ Step W H W H' := by
  obtain ⟨a', ha', w, o, hm⟩ := er.ownAt h
  rw [ha] at ha'; cases ha'
  have hi : i < δ.length := by
    unfold DL.ownAt at h
    split at h
    · rename_i hd; exact (List.getElem?_eq_some_iff.mp hd).1
    · rename_i hd; exact (List.getElem?_eq_some_iff.mp hd).1
    · cases h
  obtain ⟨ob', hb'⟩ := o'.some
  have st : Step W H W H' := ⟨fun b o hb n => k b o hb fun z => n (z ▸ w), fun _ z => .inl z, fun b z => (by
    cases q : H b with
    | none => rfl
    | some ob =>
      by_cases e : b = a
      · subst e; rw [hb'] at z; cases z
      · rw [k b ob q e] at z; cases z),
    fun b xs hb => k b _ hb fun z => by subst z; exact o.notTup xs hb⟩
  have keep' : ∀ (j : Nat) (b : Addr) (e : D), σ[j]? = some (some (.ref b)) → j ≠ i → (δ[j]? = some (.own e) ∨ δ[j]? = some (.lent e)) → b ≠ a := fun j b e hj ne hd z => by
    subst z
    have hi2 : ∃ d2, δ[i]? = some (.own d2) ∨ δ[i]? = some (.lent d2) := by
      unfold DL.ownAt at h
      split at h
      · rename_i hd; exact ⟨_, .inl hd⟩
      · rename_i hd; exact ⟨_, .inr hd⟩
      · cases h
    obtain ⟨d2, hi2⟩ := hi2
    exact ne (er.dst j i b e d2 hd hi2 hj ha)
  refine ⟨?_, st⟩
  have hlen : (putAt δ i d').length = δ.length := by
    unfold putAt; split <;> simp
  have oth : ∀ j, j ≠ i → (putAt δ i d')[j]? = δ[j]? := fun j hj => by
    unfold putAt; split <;> rw [List.getElem?_set_ne (Ne.symm hj)]
  have slf : (putAt δ i d')[i]? = some (.own d') ∧ (∃ e, δ[i]? = some (.own e)) ∨ (putAt δ i d')[i]? = some (.lent d') ∧ ∃ e, δ[i]? = some (.lent e) := by
    unfold putAt
    unfold DL.ownAt at h
    split at h
    · rename_i hd
      simp only [hd]
      exact .inl ⟨List.getElem?_set_self hi, _, rfl⟩
    · rename_i hd
      simp only [hd]
      exact .inr ⟨List.getElem?_set_self hi, _, rfl⟩
    · cases h
  refine ⟨by rw [hlen]; exact er.len, fun b o hb n => ?_, er.sup, fun b hb => ?_, fun j e hj => ?_, fun j e hj => ?_, fun j e hj => ?_, fun j l b e1 e2 h1 h2 h3 h4 => ?_⟩
  · refine k b o (er.keep b o hb n) fun z => ?_
    subst z
    rcases hm with z | z
    · rw [hb] at z; cases z
    · exact n z
  · obtain ⟨ob, q⟩ := er.trk b hb
    by_cases e : b = a
    · subst e; exact ⟨_, hb'⟩
    · exact ⟨_, k b ob q e⟩
  · by_cases hji : j = i
    · subst hji
      rcases slf with ⟨z, _⟩ | ⟨z, _⟩ <;> rw [z] at hj <;> cases hj
    · rw [oth j hji] at hj
      obtain ⟨v, q, r⟩ := er.val j e hj
      exact ⟨v, q, r.step st⟩
  · by_cases hji : j = i
    · subst hji
      rcases slf with ⟨z, e2, z2⟩ | ⟨z, _⟩ <;> rw [z] at hj <;> cases hj
      obtain ⟨b, q, w2, n2, _⟩ := er.own j e2 z2
      rw [ha] at q; cases q
      exact ⟨a, ha, w2, n2, o'⟩
    · rw [oth j hji] at hj
      obtain ⟨b, q, w2, n2, o2⟩ := er.own j e hj
      obtain ⟨ob, hb⟩ := o2.some
      exact ⟨b, q, w2, n2, o2.step st ((k b ob hb (keep' j b e q hji (.inl hj))).trans hb.symm)⟩
  · by_cases hji : j = i
    · subst hji
      rcases slf with ⟨z, _⟩ | ⟨z, e2, z2⟩ <;> rw [z] at hj <;> cases hj
      obtain ⟨b, q, w2, _⟩ := er.lent j e2 z2
      rw [ha] at q; cases q
      exact ⟨a, ha, w2, o'⟩
    · rw [oth j hji] at hj
      obtain ⟨b, q, w2, o2⟩ := er.lent j e hj
      obtain ⟨ob, hb⟩ := o2.some
      exact ⟨b, q, w2, o2.step st ((k b ob hb (keep' j b e q hji (.inr hj))).trans hb.symm)⟩
  · have back : ∀ (j : Nat) (e : D), ((putAt δ i d')[j]? = some (.own e) ∨ (putAt δ i d')[j]? = some (.lent e)) → ∃ e', δ[j]? = some (.own e') ∨ δ[j]? = some (.lent e') := fun j e hj => by
      by_cases hji : j = i
      · subst hji
        rcases slf with ⟨_, e2, z2⟩ | ⟨_, e2, z2⟩
        · exact ⟨e2, .inl z2⟩
        · exact ⟨e2, .inr z2⟩
      · rw [oth j hji] at hj
        exact ⟨e, hj⟩
    obtain ⟨e1', h1⟩ := back j e1 h1
    obtain ⟨e2', h2⟩ := back l e2 h2
    exact er.dst j l b e1' e2' h1 h2 h3 h4
/-- a fresh thing is stored in slot i -/
theorem ER.setOwn (er : ER K B W σ H δ) {i : Nat} {a : Addr} {d : D} (w : W a) (ns : NoSlot σ δ a) (h0 : B.H0 a = Option.none) (o : Own K W H a d) :
    ER K B W (σ.set i (some (.ref a))) H (δ.set i (.own d)) := by
  have set_i : ∀ {j : Nat} {s : S}, j ≠ i → (δ.set i s)[j]? = δ[j]? := fun hj => List.getElem?_set_ne (Ne.symm hj)
  have set_s : ∀ {j : Nat} {s : Option V}, j ≠ i → (σ.set i s)[j]? = σ[j]? := fun hj => List.getElem?_set_ne (Ne.symm hj)
  have self : ∀ {s : S}, (δ.set i (.own d))[i]? = some s → s = .own d ∧ i < σ.length := fun {s} h => by
    rw [List.getElem?_set] at h
    simp only [if_true] at h
    split at h
    · rename_i hl; cases h; exact ⟨rfl, by rw [er.len]; exact hl⟩
    · cases h
  refine ⟨by simp [er.len], er.keep, er.sup, er.trk, fun j e hj => ?_, fun j e hj => ?_, fun j e hj => ?_, fun j l b e1 e2 h1 h2 h3 h4 => ?_⟩
  · by_cases hji : j = i
    · subst hji; cases (self hj).1
    · rw [set_i hji] at hj
      rw [set_s hji]
      exact er.val j e hj
  · by_cases hji : j = i
    · subst hji
      obtain ⟨z, hl⟩ := self hj
      cases z
      exact ⟨a, List.getElem?_set_self hl, w, h0, o⟩
    · rw [set_i hji] at hj
      rw [set_s hji]
      exact er.own j e hj
  · by_cases hji : j = i
    · subst hji; cases (self hj).1
    · rw [set_i hji] at hj
      rw [set_s hji]
      exact er.lent j e hj
  · have wa : ∀ (j : Nat) (e : D) (b : Addr), j ≠ i → ((δ.set i (.own d))[j]? = some (.own e) ∨ (δ.set i (.own d))[j]? = some (.lent e)) → (σ.set i (some (.ref a)))[j]? = some (some (.ref b)) → b ≠ a := fun j e b hji hj hs z => by
      rw [set_i hji] at hj
      rw [set_s hji] at hs
      subst z
      exact ns j e hj hs
    have ia : ∀ (e : D) (b : Addr), ((δ.set i (.own d))[i]? = some (.own e) ∨ (δ.set i (.own d))[i]? = some (.lent e)) → (σ.set i (some (.ref a)))[i]? = some (some (.ref b)) → b = a := fun e b hj hs => by
      have hl : i < σ.length := by rcases hj with hj | hj <;> exact (self hj).2
      rw [List.getElem?_set_self hl] at hs
      cases hs; rfl
    by_cases hji : j = i
    · subst hji
      by_cases hli : l = j
      · exact hli.symm
      · exact absurd (ia e1 b h1 h3) (wa l e2 b hli h2 h4)
    · by_cases hli : l = i
      · subst hli
        exact absurd (ia e2 b h2 h4) (wa j e1 b hji h1 h3)
      · rw [set_i hji] at h1
        rw [set_i hli] at h2
        rw [set_s hji] at h3
        rw [set_s hli] at h4
        exact er.dst j l b e1 e2 h1 h2 h3 h4
end
end DL

namespace DL
open PySem PySem.Spec PyProof.Rows L2
section
variable {X : Cx} {B : Bd} {wx : WX} {fr : Bool} {pos p : Pos} {a b c e : Expr} {es : List Expr} {f f1 f2 f3 : DE} {k i : Nat} {fa : DA} {x : Str} {id : String} {t1 : DT} {g g1 g2 : DS} {st : Stmt} {rest : List Stmt}
/-! ### reading an owned list, dict -/
def dOwnIx (i : Nat) (fe : DE) : DE := fun δ Q E => (∃ d, ownAt δ i = some d) ∧ fe δ (fun j δ1 => ∃ ds n z, ownAt δ1 i = some (.lst ds) ∧ j = .int n ∧ atI ds n = some z ∧ Q z δ1) E
theorem pd_ownix (h : PE X (.Name x p) (tVar i)) (hb : PD X B wx b f1) (hs : PlainIx b) : PD X B wx (.Subscript (.Name x p) b pos) (dOwnIx i f1) := by
  refine ⟨fun δ Q Q' E E' k ke h => ⟨h.1, hb.mono _ _ _ _ _ (fun j δ1 ⟨ds, n, z, h1, h2, h3, h4⟩ => ⟨ds, n, z, h1, h2, h3, k _ _ h4⟩) ke h.2⟩, pe_imp (pe_ix ix_list h hb.run hs) fun σ H Q ⟨W, δ, er, ⟨d, ho⟩, q⟩ => ?_⟩
  obtain ⟨ad, ea, wa, _⟩ := er.ownAt ho
  refine ⟨.ref ad, ea, W, δ, er, hb.mono _ _ _ _ _ (fun j δ1 h1 => ?_) (fun _ _ z => z) q⟩
  obtain ⟨ds, n, z, h1, rfl, h3, h4⟩ := h1
  intro v1 H1 W1 s1 er1 r1
  cases r1
  obtain ⟨ad', ea', wa', o, _⟩ := er1.ownAt h1
  rw [ea] at ea'; cases ea'
  obtain ⟨xs, hx, rs⟩ := o
  obtain ⟨v, e1, rv⟩ := rs.atI h3
  exact ⟨ad, xs, n, v, rfl, rfl, SqL.of hx, e1, h4 v H1 W1 s1 er1 rv⟩
def dOwnLen (i : Nat) : DE := fun δ Q E => ∃ ds, ownAt δ i = some (.lst ds) ∧ Q (.int (ds.length : Int)) δ
theorem pd_ownlen {p2 : Pos} (hg : Gl X "len") (hm : X.mg "len" = none) (h : PE X (.Name x p) (tVar i)) (he : starEach [.Name x p] X.env = (false, eval (.Name x p) X.env) :: starEach [] X.env := by rfl) (hpl : (backTo pos (starEach [] X.env)).any (·.1) = false := by rfl) :
    PD X B wx (.Call (.Name "len" p2) [.Name x p] [] pos) (dOwnLen i) := by
  refine ⟨fun δ Q Q' E E' k ke ⟨ds, h1, h2⟩ => ⟨ds, h1, k _ _ h2⟩, pe_imp (pe_callB call_len_seq hg hm boot_len (pa_cons h pa_nil he) (by decide) (by decide) he hpl) fun σ H Q ⟨W, δ, er, ds, ho, q⟩ => ?_⟩
  obtain ⟨ad, ea, wa, ⟨xs, hx, rs⟩, _⟩ := er.ownAt ho
  refine ⟨.ref ad, ea, ad, xs, rfl, .inl (SqL.of hx), ?_⟩
  rw [rs.length]
  exact q _ H W .refl er (.int _)
/-! ### a def that changes its first argument -/
abbrev FM := D → List D → (D → D → Prop) → Prop
def MonoM (g : FM) : Prop := ∀ d ds (Q Q' : D → D → Prop), (∀ z d', Q z d' → Q' z d') → g d ds Q → g d ds Q'
def spM (K : PySem.W.Frag) (fr : Bool) (g : FM) : Sp := fun vs H Q E => ∃ (W : AS) (a : Addr) (d : D) (vs' : List V) (ds : List D), (∀ b, W b → ∃ o, H b = some o) ∧ vs = .ref a :: vs' ∧ W a ∧ Own K W H a d ∧ Reps K W H vs' ds ∧
  g d ds fun z d' => ∀ v H', (∀ b o, H b = some o → b ≠ a → H' b = some o) → Own K W H' a d' → Rf fr K H W H' v z → Q v H'
def dCallM (i : Nat) (g : FM) (fa : DA) : DE := fun δ Q E => (∃ d, ownAt δ i = some d) ∧ fa δ (fun ds δ1 => ∃ d, ownAt δ1 i = some d ∧ g d ds fun z d' => Q z (putAt δ1 i d')) E
theorem mono_callM {g : FM} (m : Mono fa) (mg : MonoM g) : Mono (dCallM i g fa) := fun δ Q Q' E E' k ke h => ⟨h.1, m _ _ _ _ _ (fun ds δ1 ⟨d, h1, h2⟩ => ⟨d, h1, mg _ _ _ _ (fun z d' h => k _ _ h) h2⟩) ke h.2⟩
variable {fn : Addr} {fd : FuncData} {ps : List Str} {gm : FM}
theorem pd_callM (mg : MonoM gm) (F : FnOk X.prog X.w X.K X.mg X.base CX0 k fn fd ps (spM X.K false gm)) (hr : Room k X.A) {y : Str} {p2 : Pos} (hg : Gl X y) (hm : X.mg y = some (.ref fn)) (hk : PySem.W.keepIn X.K (.ref fn) = true) (hb : Binds X.K fd ps [])
    (h : PE X (.Name x p) (tVar i)) (ha : PAD X B wx es fa) (hdb : (y == ("__debug__" : Str)) = false := by decide) (he : starEach (.Name x p :: es) X.env = (false, eval (.Name x p) X.env) :: starEach es X.env := by rfl) (hpl : (backTo pos (starEach es X.env)).any (·.1) = false := by rfl) :
    PD X B wx (.Call (.Name y p2) (.Name x p :: es) [] pos) (dCallM i gm fa) := by
  refine ⟨mono_callM ha.mono mg, pe_imp (pe_callS F hr hg hm hk hb (E := fun _ _ _ _ => False) pass00 (pa_cons h ha.run he) hdb he hpl) fun σ H Q ⟨W, δ, er, ⟨d, ho⟩, q⟩ => ?_⟩
  obtain ⟨ad, ea, wa, _⟩ := er.ownAt ho
  refine ⟨.ref ad, ea, W, δ, er, ha.mono _ _ _ _ _ (fun ds δ1 h1 => ?_) (fun _ _ z => z) q⟩
  obtain ⟨d1, ho1, h1⟩ := h1
  intro v1 H1 W1 s1 er1 r1
  obtain ⟨ad', ea', wa', o, _⟩ := er1.ownAt ho1
  rw [ea] at ea'; cases ea'
  refine ⟨W1, ad, d1, v1, ds, er1.trk, rfl, wa', o, r1, mg _ _ _ _ (fun z d' hq v H' k o' rz => ?_) h1⟩
  obtain ⟨er2, s2⟩ := er1.write ho1 ea k o'
  exact hq v H' W1 (s1.trans s2) er2 rz
/-! ### statements -/
def dNext : DS := fun E δ => E.nx δ
def dSeq (g1 g2 : DS) : DS := fun E δ => g1 { E with nx := fun δ' => g2 E δ' } δ
theorem DLe.refl (E : DEnds) : DLe E E := ⟨fun _ h => h, fun _ _ h => h, fun _ h => h, fun _ h => h, fun _ _ h => h⟩
theorem mono_seq (m1 : MonoS g1) (m2 : MonoS g2) : MonoS (dSeq g1 g2) := fun E E' δ le h => m1 { E with nx := fun δ' => g2 E δ' } { E' with nx := fun δ' => g2 E' δ' } _ ⟨fun δ' h => m2 _ _ _ le h, le.rt, le.bk, le.ct, le.xx⟩ h
theorem low.le {K : PySem.W.Frag} {σ σ' : L2.St} {W W' : AS} {H H' : Hp} {Dn : Ends} (s : Step W H W' H') : DLe (low K B wx fr σ W H Dn) (low K B wx fr σ' W' H' Dn) :=
  ⟨fun δ h σ2 H2 W2 s2 e2 => h σ2 H2 W2 (s.trans s2) e2, fun d δ h v σ2 H2 W2 s2 e2 r2 => h v σ2 H2 W2 (s.trans s2) e2 r2, fun δ h σ2 H2 W2 s2 e2 => h σ2 H2 W2 (s.trans s2) e2, fun δ h σ2 H2 W2 s2 e2 => h σ2 H2 W2 (s.trans s2) e2,
    fun x δ h c dd σ2 H2 W2 s2 e2 r2 => h c dd σ2 H2 W2 (s.trans s2) e2 r2⟩
theorem pssd_nil : PSsD X B wx fr [] dNext := ⟨fun E E' δ le h => le.nx _ h, pss_imp pss_nil fun D σ H ⟨W, δ, er, q⟩ => q σ H W .refl er⟩
theorem pssd_one (h : PSD X B wx fr st g) : PSsD X B wx fr [st] g := ⟨h.mono, pss_one h.run⟩
theorem pssd_cons (h1 : PSD X B wx fr st g1) (h2 : PSsD X B wx fr rest g2) : PSsD X B wx fr (st :: rest) (dSeq g1 g2) := by
  refine ⟨mono_seq h1.mono h2.mono, pss_imp (pss_cons h1.run h2.run) fun D σ H ⟨W, δ, er, q⟩ => ⟨W, δ, er, h1.mono { low X.K B wx fr σ W H D with nx := fun δ' => g2 (low X.K B wx fr σ W H D) δ' } _ _ ⟨fun δ' h => ?_, fun _ _ h => h, fun _ h => h, fun _ h => h, fun _ _ h => h⟩ q⟩⟩
  intro σ' H' W' s' er'
  exact ⟨W', δ', er', h2.mono _ _ _ (low.le s') h⟩
/-- x = e -/
def dAsg (f : DE) (i : Nat) : DS := fun E δ => f δ (fun d δ1 => E.nx (δ1.set i (.v d))) E.xx
theorem mono_asg (m : Mono f) : MonoS (dAsg f i) := fun E E' δ le h => m _ _ _ _ _ (fun d δ1 h => le.nx _ h) le.xx h
theorem asg_run {K : PySem.W.Frag} (m : Mono f) (D : Ends) (σ : L2.St) (H : Hp) (h : liftS K B wx fr (dAsg f i) D σ H) : tAsg (liftE K B wx f) (gName i) D σ H := by
  obtain ⟨W, δ, er, q⟩ := h
  refine ⟨W, δ, er, m _ _ _ _ _ (fun d δ1 h1 v H1 W1 s1 er1 r1 => ?_) (fun x δ1 h1 c dd H1 W1 s1 er1 r1 => h1 c dd σ H1 W1 s1 er1 r1) q⟩
  exact h1 _ _ _ s1 (er1.set r1)
theorem psd_set {py : Pos} (hN : X.N.Nodup) (hi : X.N[i]? = some x) (hx : Loc X.env.scope x) (he : PD X B wx e f) (hs : swapsWith e (some (.Name x py)) pos.line X.env = pure false := by rfl)
    (hf : X.fn x = true ∨ X.env.scope.names.lookup x = some .local := by first | exact .inl rfl | exact .inr rfl | assumption) : PSD X B wx fr (.Assign [.Name x py] e pos) (dAsg f i) :=
  ⟨mono_asg he.mono, ps_imp (ps_set hN hi hx he.run hs hf) (asg_run he.mono)⟩
/-- x = e, e a fresh thing that is changed later -/
def dAsgO (f : DE) (i : Nat) : DS := fun E δ => f δ (fun d δ1 => E.nx (δ1.set i (.own d))) E.xx
theorem mono_asgO (m : Mono f) : MonoS (dAsgO f i) := fun E E' δ le h => m _ _ _ _ _ (fun d δ1 h => le.nx _ h) le.xx h
theorem asgO_run {K : PySem.W.Frag} (m : Mono f) (D : Ends) (σ : L2.St) (H : Hp) (h : liftS K B wx fr (dAsgO f i) D σ H) : tAsg (liftF K B wx f) (gName i) D σ H := by
  obtain ⟨W, δ, er, q⟩ := h
  refine ⟨W, δ, er, m _ _ _ _ _ (fun d δ1 h1 a H1 W1 s1 er1 hn wa o ns => ?_) (fun x δ1 h1 c dd H1 W1 s1 er1 r1 => h1 c dd σ H1 W1 s1 er1 r1) q⟩
  exact h1 _ _ _ s1 (er1.setOwn wa ns (er.h0 hn) o)
theorem psd_setO {py : Pos} (hN : X.N.Nodup) (hi : X.N[i]? = some x) (hx : Loc X.env.scope x) (he : PF X B wx e f) (hs : swapsWith e (some (.Name x py)) pos.line X.env = pure false := by rfl)
    (hf : X.fn x = true ∨ X.env.scope.names.lookup x = some .local := by first | exact .inl rfl | exact .inr rfl | assumption) : PSD X B wx fr (.Assign [.Name x py] e pos) (dAsgO f i) :=
  ⟨mono_asgO he.mono, ps_imp (ps_set hN hi hx he.run hs hf) (asgO_run he.mono)⟩
def dDrop (f : DE) : DS := fun E δ => f δ (fun _ δ1 => E.nx δ1) E.xx
theorem psd_expr (he : PD X B wx e f) (hs : swapsWith e none pos.line X.env = pure false := by rfl) : PSD X B wx fr (.Expr e pos) (dDrop f) := by
  refine ⟨fun E E' δ le h => he.mono _ _ _ _ _ (fun d δ1 h => le.nx _ h) le.xx h, ps_imp (ps_expr he.run hs) fun D σ H ⟨W, δ, er, q⟩ => ?_⟩
  exact ⟨W, δ, er, he.mono _ _ _ _ _ (fun d δ1 h1 v H1 W1 s1 er1 r1 => h1 _ _ _ s1 er1) (fun x δ1 h1 c dd H1 W1 s1 er1 r1 => h1 c dd σ H1 W1 s1 er1 r1) q⟩
def dRet (f : DE) : DS := fun E δ => f δ (fun d δ1 => E.rt d δ1) E.xx
theorem mono_ret (m : Mono f) : MonoS (dRet f) := fun E E' δ le h => m _ _ _ _ _ (fun d δ1 h => le.rt _ _ h) le.xx h
theorem psd_ret (he : PD X B wx e f) : PSD X B wx false (.Return (some e) pos) (dRet f) := by
  refine ⟨mono_ret he.mono, ps_imp (ps_ret he.run) fun D σ H ⟨W, δ, er, q⟩ => ?_⟩
  exact ⟨W, δ, er, he.mono _ _ _ _ _ (fun d δ1 h1 v H1 W1 s1 er1 r1 => h1 v σ H1 W1 s1 er1 r1) (fun x δ1 h1 c dd H1 W1 s1 er1 r1 => h1 c dd σ H1 W1 s1 er1 r1) q⟩
theorem psd_retF (he : PF X B wx e f) : PSD X B wx true (.Return (some e) pos) (dRet f) := by
  refine ⟨mono_ret he.mono, ps_imp (ps_ret he.run) fun D σ H ⟨W, δ, er, q⟩ => ?_⟩
  exact ⟨W, δ, er, he.mono _ _ _ _ _ (fun d δ1 h1 a H1 W1 s1 er1 hn wa o ns => h1 (.ref a) σ H1 W1 s1 er1 ⟨a, rfl, er.h0 hn, wa, o⟩) (fun x δ1 h1 c dd H1 W1 s1 er1 r1 => h1 c dd σ H1 W1 s1 er1 r1) q⟩
/-- return of an owned slot, as fresh -/
def dRetO (i : Nat) : DS := fun E δ => ∃ d, δ[i]? = some (.own d) ∧ E.rt d δ
theorem psd_retO (h : PE X (.Name x p) (tVar i)) : PSD X B wx true (.Return (some (.Name x p)) pos) (dRetO i) := by
  refine ⟨fun E E' δ le ⟨d, h1, h2⟩ => ⟨d, h1, le.rt _ _ h2⟩, ps_imp (ps_ret h) fun D σ H ⟨W, δ, er, d, h1, q⟩ => ?_⟩
  obtain ⟨a, ea, wa, n, o⟩ := er.own i d h1
  exact ⟨_, ea, q _ σ H W .refl er ⟨a, rfl, n, wa, o⟩⟩
def dRetN : DS := fun E δ => E.rt .non δ
theorem psd_retN : PSD X B wx false (.Return none pos) dRetN := ⟨fun E E' δ le h => le.rt _ _ h, ps_imp ps_retN fun D σ H ⟨W, δ, er, q⟩ => q .non σ H W .refl er (show Rep X.K W H .non .non from .non)⟩
def dIfS (t : DT) (g1 g2 : DS) : DS := fun E δ => t δ (fun b δ1 => if b = true then g1 E δ1 else g2 E δ1) E.xx
theorem psd_if {sa sb : List Stmt} (hc : PTD X B wx c t1) (ha : PSsD X B wx fr sa g1) (hb : PSsD X B wx fr sb g2) : PSD X B wx fr (.If c sa sb pos) (dIfS t1 g1 g2) := by
  refine ⟨fun E E' δ le h => hc.mono _ _ _ _ _ (fun b δ1 h => ?_) le.xx h, ps_imp (ps_if hc.run ha.run hb.run) fun D σ H ⟨W, δ, er, q⟩ => ?_⟩
  · cases b with
    | true => exact ha.mono _ _ _ le h
    | false => exact hb.mono _ _ _ le h
  · refine ⟨W, δ, er, hc.mono _ _ _ _ _ (fun b δ1 h1 v H1 W1 s1 er1 r1 => ?_) (fun x δ1 h1 c dd H1 W1 s1 er1 r1 => h1 c dd σ H1 W1 s1 er1 r1) q⟩
    subst r1
    cases v with
    | true => exact ⟨W1, δ1, er1, ha.mono _ _ _ (low.le s1) h1⟩
    | false => exact ⟨W1, δ1, er1, hb.mono _ _ _ (low.le s1) h1⟩
def dBrk : DS := fun E δ => E.bk δ
def dCnt : DS := fun E δ => E.ct δ
theorem psd_break : PSD X B wx fr (.Break pos) dBrk := ⟨fun E E' δ le h => le.bk _ h, ps_imp ps_break fun D σ H ⟨W, δ, er, q⟩ => q σ H W .refl er⟩
theorem psd_continue : PSD X B wx fr (.Continue pos) dCnt := ⟨fun E E' δ le h => le.ct _ h, ps_imp ps_continue fun D σ H ⟨W, δ, er, q⟩ => q σ H W .refl er⟩
theorem psd_pass : PSD X B wx fr (.Pass pos) dNext := ⟨fun E E' δ le h => le.nx _ h, ps_imp ps_pass fun D σ H ⟨W, δ, er, q⟩ => q σ H W .refl er⟩
def dNever : DS := fun _ _ => False
theorem psd_never : PSD X B wx fr st dNever := ⟨fun E E' δ le h => h.elim, ps_imp ps_never fun D σ H ⟨W, δ, er, q⟩ => q.elim⟩
theorem pssd_never {sts : List Stmt} : PSsD X B wx fr sts dNever := ⟨fun E E' δ le h => h.elim, pss_imp pss_never fun D σ H ⟨W, δ, er, q⟩ => q.elim⟩
/-- rows.append(e), rows owned or lent -/
def dApp (i : Nat) (f : DE) : DS := fun E δ => (∃ d, ownAt δ i = some (.lst d)) ∧ f δ (fun d δ1 => ∃ ds, ownAt δ1 i = some (.lst ds) ∧ ds.length < sizeLine ∧ E.nx (putAt δ1 i (.lst (ds ++ [d])))) E.xx
/-- what a method's call wants of the text -/
def MCall (X : Cx) (o : Expr) (name : Str) (es : List Expr) (apos cpos : Pos) : Prop :=
  attributeBase o name X.env (eval o X.env) = eval o X.env ∧ ((backTo cpos (starEach es X.env)).all (fun x => !x.1) && (backToKw cpos (keywordEach [] X.env)).all (fun x => x.1.isSome) && decide (es.length + ([] : List Keyword).length + (if ([] : List Keyword).isEmpty then 0 else 1) < 30)) = true ∧ (apos.endLine == cpos.line) = true
theorem psd_append {apos ep : Pos} (h : PE X (.Name x p) (tVar i)) (ha : PD X B wx e f) (mc : MCall X (.Name x p) "append" [e] apos pos := by exact ⟨rfl, rfl, rfl⟩) (he : starEach [e] X.env = (false, eval e X.env) :: starEach [] X.env := by rfl) (hpl : (backTo pos (starEach [] X.env)).any (·.1) = false := by rfl)
    (hs : swapsWith (.Call (.Attribute (.Name x p) "append" apos) [e] [] pos) none ep.line X.env = pure false := by rfl) : PSD X B wx fr (.Expr (.Call (.Attribute (.Name x p) "append" apos) [e] [] pos) ep) (dApp i f) := by
  have hr : PE X (.Call (.Attribute (.Name x p) "append" apos) [e] [] pos) (tBM X.K "list" rAppend (tVar i) (tCons (liftE X.K B wx f) tNil)) :=
    pe_bm PySem.F.plainAttrs_list PySem.F.slot_list_append PySem.F.type_list_append mt_append h (pa_cons ha.run pa_nil he) mc.1 mc.2.1 mc.2.2 he hpl
  refine ⟨fun E E' δ le h => ⟨h.1, ha.mono _ _ _ _ _ (fun d δ1 ⟨ds, h1, h2, h3⟩ => ⟨ds, h1, h2, le.nx _ h3⟩) le.xx h.2⟩, ps_imp (ps_expr hr hs) fun D σ H ⟨W, δ, er, ⟨d0, ho⟩, q⟩ => ?_⟩
  obtain ⟨ad, ea, wa, o0, _⟩ := er.ownAt ho
  have ty0 : ∃ xs, SqL X.K H ad xs := by obtain ⟨xs, hx, _⟩ := o0; exact ⟨xs, SqL.of hx⟩
  refine ⟨.ref ad, ea, .inl ⟨rfl, ty0⟩, W, δ, er, ha.mono _ _ _ _ _ (fun d δ1 h1 v H1 W1 s1 er1 r1 => ?_) (fun x δ1 h1 c dd H1 W1 s1 er1 r1 => h1 c dd σ H1 W1 s1 er1 r1) q⟩
  obtain ⟨ds, ho1, hl, h1⟩ := h1
  obtain ⟨ad', ea', wa', ⟨xs, hx, rs⟩, _⟩ := er1.ownAt ho1
  rw [ea] at ea'; cases ea'
  refine ⟨ad, xs, v, rfl, rfl, hx, by rw [rs.length]; exact hl, ?_⟩
  have st : Step W1 H1 W1 (upd H1 ad (.lst (xs ++ [v]))) := .write wa' fun zs e => by rw [hx] at e; cases e
  obtain ⟨er2, s2⟩ := er1.write (H' := upd H1 ad (.lst (xs ++ [v]))) (d' := .lst (ds ++ [d])) ho1 ea (fun b o hb n => by rw [upd_ne n]; exact hb) ⟨_, upd_same, (rs.step st).append (.cons (r1.step st) .nil)⟩
  exact h1 _ _ _ (s1.trans s2) er2
end
end DL

namespace DL
open PySem PySem.Spec PyProof.Rows L2
section
variable {X : Cx} {B : Bd} {wx : WX} {fr : Bool} {pos p : Pos} {a b c e : Expr} {es : List Expr} {f f1 f2 f3 : DE} {k i : Nat} {fa : DA} {x : Str} {id : String} {t1 : DT} {g g1 g2 : DS} {st : Stmt} {rest : List Stmt}
/-! ### rows[j] = e, rows owned or lent -/
def dPut (i : Nat) (fj fe : DE) : DS := fun E δ => fe δ (fun d δ1 => (∃ d0, ownAt δ1 i = some d0) ∧ fj δ1 (fun j δ2 => ∃ ds n m, ownAt δ2 i = some (.lst ds) ∧ j = .int n ∧ ixN ds.length n = some m ∧ E.nx (putAt δ2 i (.lst (ds.set m d)))) E.xx) E.xx
/-- what a store to a place wants of the text -/
def SCall (X : Cx) (o i : Expr) (tp : Pos) : Prop := ∀ v, assign (.Subscript o i tp) X.env v = (do
  let ov ← holding [v] (eval o X.env)
  let iv ← holding [v, ov] (eval i X.env)
  standAt tp
  holding [v, ov, iv] (setItem ov iv v)
  release [v, ov, iv] [])
theorem psd_put {tp : Pos} (h : PE X (.Name x p) (tVar i)) (hb : PD X B wx b f2) (he : PD X B wx e f1) (sc : SCall X (.Name x p) b tp := by intro _; rfl)
    (hs : swapsWithSole [.Subscript (.Name x p) b tp] e pos.line X.env = pure false := by rfl) (hw : swappedStores [.Subscript (.Name x p) b tp] e X.env = pure none := by rfl)
    (h1 : (assignEach [.Subscript (.Name x p) b tp] X.env).map (·.2) = [assign (.Subscript (.Name x p) b tp) X.env] := by rfl) : PSD X B wx fr (.Assign [.Subscript (.Name x p) b tp] e pos) (dPut i f2 f1) := by
  have hr : PS X (.Assign [.Subscript (.Name x p) b tp] e pos) (tAsg (liftE X.K B wx f1) (gSub (tVar i) (liftE X.K B wx f2) rSetL)) := ps_asg he.run (pg_sub h hb.run set_list sc) hs hw h1
  refine ⟨fun E E' δ le h => he.mono _ _ _ _ _ (fun d δ1 h => ⟨h.1, hb.mono _ _ _ _ _ (fun j δ2 ⟨ds, n, m, h1, h2, h3, h4⟩ => ⟨ds, n, m, h1, h2, h3, le.nx _ h4⟩) le.xx h.2⟩) le.xx h, ps_imp hr fun D σ H ⟨W, δ, er, q⟩ => ?_⟩
  refine ⟨W, δ, er, he.mono _ _ _ _ _ (fun d δ1 h1 v H1 W1 s1 er1 r1 => ?_) (fun x δ1 h1 c dd H1 W1 s1 er1 r1 => h1 c dd σ H1 W1 s1 er1 r1) q⟩
  obtain ⟨⟨d0, ho⟩, h1⟩ := h1
  obtain ⟨ad, ea, wa, o0, _⟩ := er1.ownAt ho
  refine ⟨.ref ad, ea, W1, δ1, er1, hb.mono _ _ _ _ _ (fun j δ2 h2 v2 H2 W2 s2 er2 r2 => ?_) (fun x δ2 h2 c dd H2 W2 s2 er2 r2 => h2 c dd σ H2 W2 (s1.trans s2) er2 r2) h1⟩
  obtain ⟨ds, n, m, ho2, rfl, hm, h2⟩ := h2
  cases r2
  obtain ⟨ad', ea', wa', ⟨xs, hx, rs⟩, _⟩ := er2.ownAt ho2
  rw [ea] at ea'; cases ea'
  refine ⟨ad, xs, n, m, rfl, rfl, hx, by rw [rs.length]; exact hm, ?_⟩
  obtain ⟨er3, s3⟩ := er2.write (H' := upd H2 ad (.lst (xs.set m v))) (d' := .lst (ds.set m d)) ho2 ea (fun b o hb n => by rw [upd_ne n]; exact hb) ⟨_, upd_same, (rs.step (.write wa' fun zs e => by rw [hx] at e; cases e)).set ((r1.step s2).step (.write wa' fun zs e => by rw [hx] at e; cases e)) m⟩
  exact h2 _ _ _ ((s1.trans s2).trans s3) er3
/-! ### d['k'], d['k'] = e, d an owned or lent dict with keys that are texts -/
def lkD (k : Key) : List (Key × D) → Option D
  | [] => none
  | (k', d) :: r => if k = k' then some d else lkD k r
def pkD (k : Key) (d : D) : List (Key × D) → List (Key × D)
  | [] => [(k, d)]
  | (k', d') :: r => if k = k' then (k', d) :: r else (k', d') :: pkD k d r
/-! ### targets -/
abbrev DG := D → DEnv → (DEnv → Prop) → Prop
def MonoT (g : DG) : Prop := ∀ d δ (Q Q' : DEnv → Prop), (∀ δ', Q δ' → Q' δ') → g d δ Q → g d δ Q'
def liftG (K : PySem.W.Frag) (B : Bd) (g : DG) : TG := fun v σ H Q => ∃ W δ d, ER K B W σ H δ ∧ Rep K W H v d ∧ g d δ fun δ' => ∀ σ', ER K B W σ' H δ' → Q σ' H
structure PGD (X : Cx) (B : Bd) (tg : Expr) (g : DG) : Prop where
  mono : MonoT g
  run : PG X tg (liftG X.K B g)
abbrev DGs := List D → DEnv → (DEnv → Prop) → Prop
def MonoTs (g : DGs) : Prop := ∀ d δ (Q Q' : DEnv → Prop), (∀ δ', Q δ' → Q' δ') → g d δ Q → g d δ Q'
def liftGs (K : PySem.W.Frag) (B : Bd) (g : DGs) : TGs := fun vs σ H Q => ∃ W δ ds, ER K B W σ H δ ∧ Reps K W H vs ds ∧ g ds δ fun δ' => ∀ σ', ER K B W σ' H δ' → Q σ' H
structure PGsD (X : Cx) (B : Bd) (tg : List Expr) (g : DGs) : Prop where
  mono : MonoTs g
  run : PGs X tg (liftGs X.K B g)
theorem pg_imp {X : Cx} {e : Expr} {t t' : TG} (h : PG X e t) (w : ∀ v σ H Q, t' v σ H Q → t v σ H Q) : PG X e t' := ⟨fun pins s σ H v u Q I r q => h.run pins s σ H v u Q I r (w v σ H Q q)⟩
theorem pgs_imp {X : Cx} {e : List Expr} {t t' : TGs} (h : PGs X e t) (w : ∀ v σ H Q, t' v σ H Q → t v σ H Q) : PGs X e t' := ⟨fun pins s σ H v u Q I r q => h.run pins s σ H v u Q I r (w v σ H Q q)⟩
def tgName (i : Nat) : DG := fun d δ Q => Q (δ.set i (.v d))
theorem pgd_name (hN : X.N.Nodup) (hi : X.N[i]? = some x) (hx : Loc X.env.scope x) (hf : X.fn x = true ∨ X.env.scope.names.lookup x = some .local := by first | exact .inl rfl | exact .inr rfl | assumption) : PGD X B (.Name x pos) (tgName i) :=
  ⟨fun d δ Q Q' k h => k _ h, pg_imp (pg_name hN hi hx hf) fun v σ H Q ⟨W, δ, d, er, r, q⟩ => q _ (er.set r)⟩
def tgNil : DGs := fun ds δ Q => ds = [] ∧ Q δ
def tgCons (g : DG) (gs : DGs) : DGs := fun ds δ Q => ∃ d r, ds = d :: r ∧ g d δ fun δ1 => gs r δ1 Q
variable {tg : DG} {tgs : DGs}
theorem pgsd_nil : PGsD X B [] tgNil := ⟨fun d δ Q Q' k h => ⟨h.1, k _ h.2⟩, pgs_imp pgs_nil fun v σ H Q ⟨W, δ, ds, er, r, e, q⟩ => by
  subst e; cases r; exact ⟨rfl, q σ er⟩⟩
theorem pgsd_cons (h1 : PGD X B e tg) (h2 : PGsD X B es tgs) (hs : (assignEach (e :: es) X.env).map (·.2) = assign e X.env :: (assignEach es X.env).map (·.2) := by rfl) : PGsD X B (e :: es) (tgCons tg tgs) := by
  refine ⟨fun ds δ Q Q' k ⟨d, r, e, h⟩ => ⟨d, r, e, h1.mono _ _ _ _ (fun δ' h => h2.mono _ _ _ _ k h) h⟩, pgs_imp (pgs_cons h1.run h2.run hs) fun v σ H Q ⟨W, δ, ds, er, r, d, dr, e, q⟩ => ?_⟩
  subst e
  cases r with
  | cons r rr => exact ⟨_, _, rfl, W, δ, d, er, r, h1.mono _ _ _ _ (fun δ' h σ' er' => ⟨W, δ', dr, er', rr, h⟩) q⟩
def tgTup (gs : DGs) (n : Nat) : DG := fun d δ Q => ∃ ds, d = .tup ds ∧ ds.length = n ∧ gs ds δ Q
theorem pgd_tup {kk : Nat} {n : Nat} (hc : X.calm = true) (h : PGsD X B es tgs) (hn : (assignEach es X.env).length = n := by rfl) (hst : (assignEach es X.env).findIdx? (·.1) = none := by rfl) : PGD X B (.Tuple es kk pos) (tgTup tgs n) := by
  refine ⟨fun d δ Q Q' k ⟨ds, e, l, h'⟩ => ⟨ds, e, l, h.mono _ _ _ _ k h'⟩, pg_imp (pg_tup hc h.run hn hst) fun v σ H Q ⟨W, δ, d, er, r, ds, e, l, q⟩ => ?_⟩
  subst e
  cases r with
  | tup lw rs => exact ⟨_, _, rfl, lw.sq, by rw [rs.length]; exact l, W, δ, ds, er, rs, q⟩
def tgLst (gs : DGs) (n : Nat) : DG := fun d δ Q => ∃ ds, d = .lst ds ∧ ds.length = n ∧ gs ds δ Q
theorem pgd_lst {kk : Nat} {n : Nat} (hc : X.calm = true) (h : PGsD X B es tgs) (hn : (assignEach es X.env).length = n := by rfl) (hst : (assignEach es X.env).findIdx? (·.1) = none := by rfl) : PGD X B (.Tuple es kk pos) (tgLst tgs n) := by
  refine ⟨fun d δ Q Q' k ⟨ds, e, l, h'⟩ => ⟨ds, e, l, h.mono _ _ _ _ k h'⟩, pg_imp (pg_lst hc h.run hn hst) fun v σ H Q ⟨W, δ, d, er, r, ds, e, l, q⟩ => ?_⟩
  subst e
  cases r with
  | lst lw rs => exact ⟨_, _, rfl, lw.sq, by rw [rs.length]; exact l, W, δ, ds, er, rs, q⟩
/-- target = e -/
def dAsgT (f : DE) (tg : DG) : DS := fun E δ => f δ (fun d δ1 => tg d δ1 E.nx) E.xx
theorem psd_asg {te : Expr} (hg : PGD X B te tg) (he : PD X B wx e f) (hs : swapsWithSole [te] e pos.line X.env = pure false := by rfl) (hw : swappedStores [te] e X.env = pure none := by rfl)
    (h1 : (assignEach [te] X.env).map (·.2) = [assign te X.env] := by rfl) : PSD X B wx fr (.Assign [te] e pos) (dAsgT f tg) := by
  refine ⟨fun E E' δ le h => he.mono _ _ _ _ _ (fun d δ1 h => hg.mono _ _ _ _ le.nx h) le.xx h, ps_imp (ps_asg he.run hg.run hs hw h1) fun D σ H ⟨W, δ, er, q⟩ => ?_⟩
  refine ⟨W, δ, er, he.mono _ _ _ _ _ (fun d δ1 h1 v H1 W1 s1 er1 r1 => ?_) (fun x δ1 h1 c dd H1 W1 s1 er1 r1 => h1 c dd σ H1 W1 s1 er1 r1) q⟩
  exact ⟨W1, δ1, d, er1, r1, hg.mono _ _ _ _ (fun δ' h σ' er' => h σ' H1 W1 s1 er') h1⟩
/-- a, b = x, y -/
def dPar (i j : Nat) (fa : DA) : DS := fun E δ => fa δ (fun ds δ1 => ∃ d e, ds = [d, e] ∧ E.nx ((δ1.set i (.v d)).set j (.v e))) E.xx
theorem psd_par {j : Nat} {y : Str} {px py pt : Pos} {kt k2 pt2} (hc : X.calm = true) (hN : X.N.Nodup) (hi : X.N[i]? = some x) (hj : X.N[j]? = some y) (hij : i ≠ j)
    (hx : X.env.scope.names.lookup x = some .local) (hy : X.env.scope.names.lookup y = some .local) (ha : PAD X B wx [a, b] fa)
    (hw : swappedStores [.Tuple [.Name x px, .Name y py] kt pt] (.Tuple [a, b] k2 pt2) X.env = pure (some [x, y]))
    (hs : swapsWithSole [.Tuple [.Name x px, .Name y py] kt pt] (.Tuple [a, b] k2 pt2) pos.line X.env = pure false := by rfl) :
    PSD X B wx fr (.Assign [.Tuple [.Name x px, .Name y py] kt pt] (.Tuple [a, b] k2 pt2) pos) (dPar i j fa) := by
  refine ⟨fun E E' δ le h => ha.mono _ _ _ _ _ (fun d δ1 ⟨u, v, e, h⟩ => ⟨u, v, e, le.nx _ h⟩) le.xx h, ps_imp (ps_par hc hN hi hj hij hx hy ha.run hw hs) fun D σ H ⟨W, δ, er, q⟩ => ?_⟩
  refine ⟨W, δ, er, ha.mono _ _ _ _ _ (fun d δ1 h1 v H1 W1 s1 er1 r1 => ?_) (fun x δ1 h1 c dd H1 W1 s1 er1 r1 => h1 c dd σ H1 W1 s1 er1 r1) q⟩
  obtain ⟨u, z, rfl, h1⟩ := h1
  cases r1 with
  | cons r1 rr =>
    cases rr with
    | cons r2 rr =>
      cases rr
      exact ⟨_, _, rfl, h1 _ _ _ s1 ((er1.set r1).set r2)⟩
/-- x op= e, ints -/
def dAug (i : Nat) (h : Int → Int → Int) (f : DE) : DS := fun E δ => ∃ n, δ[i]? = some (.v (.int n)) ∧ f δ (fun d δ1 => ∃ m, d = .int m ∧ E.nx (δ1.set i (.v (.int (h n m))))) E.xx
theorem psd_aug {py : Pos} {op : Operator} {h : Int → Int → Int} (ho : PIp X op (ipI h)) (hN : X.N.Nodup) (hi : X.N[i]? = some x) (hx : Loc X.env.scope x) (he : PD X B wx e f)
    (hf : X.fn x = true ∨ X.env.scope.names.lookup x = some .local := by first | exact .inl rfl | exact .inr rfl | assumption) : PSD X B wx fr (.AugAssign (.Name x py) op e pos) (dAug i h f) := by
  refine ⟨fun E E' δ le ⟨n, h1, h2⟩ => ⟨n, h1, he.mono _ _ _ _ _ (fun d δ1 ⟨m, e, h⟩ => ⟨m, e, le.nx _ h⟩) le.xx h2⟩, ps_imp (ps_aug hN hi hx he.run ho hf) fun D σ H ⟨W, δ, er, n, h1, q⟩ => ?_⟩
  obtain ⟨v, ev, rv⟩ := er.val i _ h1
  cases rv
  refine ⟨_, ev, W, δ, er, he.mono _ _ _ _ _ (fun d δ1 h1 v H1 W1 s1 er1 r1 => ?_) (fun x δ1 h1 c dd H1 W1 s1 er1 r1 => h1 c dd σ H1 W1 s1 er1 r1) q⟩
  obtain ⟨m, rfl, h1⟩ := h1
  cases r1
  exact ⟨n, m, rfl, rfl, h1 _ _ _ s1 (er1.set (.int _))⟩
/-! ### what is walked -/
structure ItOk (K : PySem.W.Frag) (W : AS) (H : Hp) (J : It) (ds : List D) : Prop where
  go : ∀ (i : Nat) H' W', Step W H W' H' → i < ds.length → J.go i H'
  yld : ∀ (i : Nat) H' W' x H2, Step W H W' H' → (∀ a, W' a → ∃ o, H' a = some o) → J.yld i H' x H2 → i < ds.length → Same H' H2 ∧ ∃ d, ds[i]? = some d ∧ Rep K W' H2 x d
  stop : ∀ (i : Nat) H' W', Step W H W' H' → ds.length ≤ i → J.stop i H'
abbrev DI := DEnv → (List D → DEnv → Prop) → XC → Prop
def Ist (K : PySem.W.Frag) (B : Bd) (σ : L2.St) (W : AS) (H : Hp) (R : It → Hp → Prop) (ds : List D) (δ' : DEnv) : Prop := ∀ J H' W', Step W H W' H' → ER K B W' σ H' δ' → ItOk K W' H' J ds → R J H'
def liftI (K : PySem.W.Frag) (B : Bd) (wx : WX) (f : DI) : TI := fun σ H R => ∃ W δ, ER K B W σ H δ ∧ f δ (Ist K B σ W H R) (Xst K B wx σ W H)
structure PID (X : Cx) (B : Bd) (wx : WX) (tg iter : Expr) (f : DI) : Prop where
  mono : Mono f
  run : PI X tg iter (liftI X.K B wx f)
theorem pi_imp {X : Cx} {tg e : Expr} {t t' : TI} (h : PI X tg e t) (w : ∀ σ H R, t' σ H R → t σ H R) : PI X tg e t' := ⟨fun pins s σ H R I q => h.run pins s σ H R I (w σ H R q)⟩
theorem it_list {K : PySem.W.Frag} {W : AS} {H : Hp} {ad : Addr} {xs : List V} {ds : List D} (l : LW K W H ad xs) (r : Reps K W H xs ds) : ItOk K W H (Itl K ad) ds where
  go := fun i H' W' s hi => by
    obtain ⟨v, e, _⟩ := r.get (List.getElem?_eq_getElem hi)
    exact ⟨xs, v, (l.step s).sq, e⟩
  yld := fun i H' W' x H2 s t ⟨e, h⟩ hi => by
    subst e
    obtain ⟨d, e, rd⟩ := (r.step s).getV (h xs (l.step s).sq)
    exact ⟨Same.refl _, d, e, rd⟩
  stop := fun i H' W' s hi => ⟨xs, (l.step s).sq, by rw [r.length]; exact hi⟩
theorem it_tup {K : PySem.W.Frag} {W : AS} {H : Hp} {ad : Addr} {xs : List V} {ds : List D} (l : TW H ad xs) (r : Reps K W H xs ds) : ItOk K W H (Itt K ad) ds where
  go := fun i H' W' s hi => by
    obtain ⟨v, e, _⟩ := r.get (List.getElem?_eq_getElem hi)
    exact ⟨xs, v, (l.step s).sq, e⟩
  yld := fun i H' W' x H2 s t ⟨e, h⟩ hi => by
    subst e
    obtain ⟨d, e, rd⟩ := (r.step s).getV (h xs (l.step s).sq)
    exact ⟨Same.refl _, d, e, rd⟩
  stop := fun i H' W' s hi => ⟨xs, (l.step s).sq, by rw [r.length]; exact hi⟩
/-- lo, lo + 1, .. -/
def rngD (lo : Int) (n : Nat) : List D := (List.range n).map fun (i : Nat) => D.int (lo + i)
theorem it_rng {K : PySem.W.Frag} {W : AS} {H : Hp} {lo : Int} {n : Nat} : ItOk K W H (Itr lo n) (rngD lo n) where
  go := fun i H' W' s hi => show i < n by simpa [rngD] using hi
  yld := fun i H' W' x H2 s t ⟨e, h⟩ hi => by
    subst e h
    have hi' : i < n := by simpa [rngD] using hi
    exact ⟨Same.refl _, .int (lo + i), by simp [rngD, hi'], .int _⟩
  stop := fun i H' W' s hi => show n ≤ i by simpa [rngD] using hi
def iLst (f : DE) : DI := fun δ Q E => f δ (fun d δ1 => ∃ ds, d = .lst ds ∧ Q ds δ1) E
def iTp (f : DE) : DI := fun δ Q E => f δ (fun d δ1 => ∃ ds, d = .tup ds ∧ Q ds δ1) E
def iR1 (fa : DA) : DI := fun δ Q E => fa δ (fun ds δ1 => ∃ j : Int, ds = [.int j] ∧ -(2 ^ 62) ≤ j ∧ j < 2 ^ 62 ∧ Q (rngD 0 j.toNat) δ1) E
def iR2 (fa : DA) : DI := fun δ Q E => fa δ (fun ds δ1 => ∃ i j : Int, ds = [.int i, .int j] ∧ (-(2 ^ 62) ≤ i ∧ i < 2 ^ 62 ∧ -(2 ^ 62) ≤ j ∧ j < 2 ^ 62) ∧ Q (rngD i (j - i).toNat) δ1) E
variable {te : Expr}
theorem pid_lst (h : PD X B wx e f) : PID X B wx te e (iLst f) := by
  refine ⟨fun δ Q Q' E E' k ke h' => h.mono _ _ _ _ _ (fun d δ1 ⟨ds, e, h⟩ => ⟨ds, e, k _ _ h⟩) ke h', pi_imp (pi_list h.run) fun σ H R ⟨W, δ, er, q⟩ => ?_⟩
  refine ⟨W, δ, er, h.mono _ _ _ _ _ (fun d δ1 h1 v H1 W1 s1 er1 r1 => ?_) (fun _ _ z => z) q⟩
  obtain ⟨ds, rfl, h1⟩ := h1
  cases r1 with
  | lst l rs => exact ⟨_, rfl, ⟨_, l.sq⟩, h1 _ _ _ s1 er1 (it_list l rs)⟩
theorem pid_tup (h : PD X B wx e f) : PID X B wx te e (iTp f) := by
  refine ⟨fun δ Q Q' E E' k ke h' => h.mono _ _ _ _ _ (fun d δ1 ⟨ds, e, h⟩ => ⟨ds, e, k _ _ h⟩) ke h', pi_imp (pi_tup h.run) fun σ H R ⟨W, δ, er, q⟩ => ?_⟩
  refine ⟨W, δ, er, h.mono _ _ _ _ _ (fun d δ1 h1 v H1 W1 s1 er1 r1 => ?_) (fun _ _ z => z) q⟩
  obtain ⟨ds, rfl, h1⟩ := h1
  cases r1 with
  | tup l rs => exact ⟨_, rfl, ⟨_, l.sq⟩, h1 _ _ _ s1 er1 (it_tup l rs)⟩
theorem pid_r1 (hg : Gl X "range") (hm : X.mg "range" = none) (ha : PAD X B wx [a] fa) (hs : starEach [a] X.env = [(false, eval a X.env)] := by rfl) : PID X B wx te (.Call (.Name "range" p) [a] [] pos) (iR1 fa) := by
  refine ⟨fun δ Q Q' E E' k ke h' => ha.mono _ _ _ _ _ (fun d δ1 ⟨j, e, h1, h2, h⟩ => ⟨j, e, h1, h2, k _ _ h⟩) ke h', pi_imp (pi_range1 hg hm ha.run hs) fun σ H R ⟨W, δ, er, q⟩ => ?_⟩
  refine ⟨W, δ, er, ha.mono _ _ _ _ _ (fun d δ1 h1 v H1 W1 s1 er1 r1 => ?_) (fun _ _ z => z) q⟩
  obtain ⟨j, rfl, l1, l2, h1⟩ := h1
  cases r1 with
  | cons r rr => cases rr; cases r; exact ⟨j, rfl, l1, l2, h1 _ _ _ s1 er1 it_rng⟩
theorem pid_r2 (hg : Gl X "range") (hm : X.mg "range" = none) (ha : PAD X B wx [a, b] fa) (hs : starEach [a, b] X.env = [(false, eval a X.env), (false, eval b X.env)] := by rfl) (hs2 : starEach [b] X.env = [(false, eval b X.env)] := by rfl) :
    PID X B wx te (.Call (.Name "range" p) [a, b] [] pos) (iR2 fa) := by
  refine ⟨fun δ Q Q' E E' k ke h' => ha.mono _ _ _ _ _ (fun d δ1 ⟨i, j, e, h1, h⟩ => ⟨i, j, e, h1, k _ _ h⟩) ke h', pi_imp (pi_range2 hg hm ha.run hs hs2) fun σ H R ⟨W, δ, er, q⟩ => ?_⟩
  refine ⟨W, δ, er, ha.mono _ _ _ _ _ (fun d δ1 h1 v H1 W1 s1 er1 r1 => ?_) (fun _ _ z => z) q⟩
  obtain ⟨i, j, rfl, l1, h1⟩ := h1
  cases r1 with
  | cons r rr => cases rr with | cons r2 rr => cases rr; cases r; cases r2; exact ⟨i, j, rfl, l1, h1 _ _ _ s1 er1 it_rng⟩
/-! ### for -/
def loopE (E : DEnds) (n : DEnv → Prop) : DEnds := { nx := n, ct := n, bk := E.nx, rt := E.rt, xx := E.xx }
theorem loopE.le {E E' : DEnds} {n n' : DEnv → Prop} (le : DLe E E') (h : ∀ δ, n δ → n' δ) : DLe (loopE E n) (loopE E' n') := ⟨h, le.rt, le.nx, h, le.xx⟩
def forD (tg : DG) (body : DS) (E : DEnds) : List D → DEnv → Prop
  | [], δ => E.nx δ
  | d :: ds, δ => tg d δ fun δ1 => body (loopE E (forD tg body E ds)) δ1
def dFor (src : DI) (tg : DG) (body : DS) : DS := fun E δ => src δ (fun ds δ1 => forD tg body E ds δ1) E.xx
theorem forD_mono (mt : MonoT tg) (mb : MonoS g) {E E' : DEnds} (le : DLe E E') : ∀ (ds : List D) (δ : DEnv), forD tg g E ds δ → forD tg g E' ds δ
  | [], δ, h => le.nx _ h
  | d :: ds, δ, h => mt _ _ _ _ (fun δ1 h => mb _ _ _ (loopE.le le (forD_mono mt mb le ds)) h) h
variable {src : DI} {body : List Stmt}
theorem psd_for (hp : PassesOwn (model X.prog X.w) X.A X.env X.xe) (hc : X.calm = true) (hi : PID X B wx te e src) (hg : PGD X B te tg) (hb : PSsD X B wx fr body g)
    (hs : ∀ x, foldedSetIterable e X.env x = pure x := by intro _; rfl) : PSD X B wx fr (.For te e body [] pos) (dFor src tg g) := by
  refine ⟨fun E E' δ le h => hi.mono _ _ _ _ _ (fun ds δ1 h => forD_mono hg.mono hb.mono le ds δ1 h) le.xx h, ps_imp (ps_for hp hc hi.run hg.run hb.run hs) fun Dn σ H ⟨W, δ, er, q⟩ => ?_⟩
  refine ⟨W, δ, er, hi.mono _ _ _ _ _ (fun ds δ1 h1 J H1 W1 s1 er1 it => ?_) (fun x δ1 h1 c dd H1 W1 s1 er1 r1 => h1 c dd σ H1 W1 s1 er1 r1) q⟩
  refine ⟨fun i m σ' H' => m = ds.length - i ∧ i ≤ ds.length ∧ ∃ W' δ', Step W1 H1 W' H' ∧ ER X.K B W' σ' H' δ' ∧ forD tg g (low X.K B wx fr σ W H Dn) (ds.drop i) δ', ⟨ds.length, by simp, Nat.zero_le _, W1, δ1, .refl, er1, by simpa using h1⟩, ?_⟩
  rintro i m σ' H' ⟨rfl, hil, W', δ', s', er', h'⟩
  by_cases hlt : i < ds.length
  · refine .inr ⟨it.go i H' W' s' hlt, fun σ' H' => ds.length - (i + 1) = ds.length - (i + 1) ∧ i + 1 ≤ ds.length ∧ ∃ W' δ', Step W1 H1 W' H' ∧ ER X.K B W' σ' H' δ' ∧ forD tg g (low X.K B wx fr σ W H Dn) (ds.drop (i + 1)) δ', fun σ2 H2 h2 => ⟨ds.length - (i + 1), ?_, h2⟩, fun x H2 y => ?_⟩
    · omega
    · obtain ⟨sm, d, hd, rd⟩ := it.yld i H' W' x H2 s' er'.trk y hlt
      have ed : ds.drop i = d :: ds.drop (i + 1) := by
        rw [List.drop_eq_getElem_cons hlt]
        have : ds[i] = d := by rw [List.getElem?_eq_getElem hlt] at hd; exact Option.some.inj hd
        rw [this]
      rw [ed] at h'
      refine ⟨W', δ', d, er'.grow sm, rd, hg.mono _ _ _ _ (fun δ2 hb2 σ2 er2 => ?_) h'⟩
      refine ⟨W', δ2, er2, hb.mono (loopE _ _) _ _ ⟨fun δ3 h3 σ3 H3 W3 s3 er3 => ?_, fun d δ3 h3 v σ3 H3 W3 s3 er3 r3 => ?_, fun δ3 h3 σ3 H3 W3 s3 er3 => ?_, fun δ3 h3 σ3 H3 W3 s3 er3 => ?_, fun x δ3 h3 c dd σ3 H3 W3 s3 er3 r3 => ?_⟩ hb2⟩
      · exact ⟨rfl, hlt, W3, δ3, (s'.trans (.same sm)).trans s3, er3, h3⟩
      · exact h3 v σ3 H3 W3 (((s1.trans s').trans (.same sm)).trans s3) er3 r3
      · exact h3 σ3 H3 W3 (((s1.trans s').trans (.same sm)).trans s3) er3
      · exact ⟨rfl, hlt, W3, δ3, (s'.trans (.same sm)).trans s3, er3, h3⟩
      · exact h3 c dd σ3 H3 W3 (((s1.trans s').trans (.same sm)).trans s3) er3 r3
  · have e : i = ds.length := by omega
    subst e
    refine .inl ⟨it.stop _ H' W' s' (Nat.le_refl _), ?_⟩
    rw [List.drop_length] at h'
    exact h' σ' H' W' (s1.trans s') er'
/-! ### while -/
def dWhile (t : DT) (body : DS) : DS := fun E δ => ∃ I : Nat → DEnv → Prop, (∃ m, I m δ) ∧ ∀ m δ1, I m δ1 → t δ1 (fun b δ2 => if b = true then body (loopE E fun δ3 => ∃ m', m' < m ∧ I m' δ3) δ2 else E.nx δ2) E.xx
theorem psd_while (hp : PassesOwn (model X.prog X.w) X.A X.env X.xe) (hc : PTD X B wx c t1) (hb : PSsD X B wx fr body g) : PSD X B wx fr (.While c body [] pos) (dWhile t1 g) := by
  refine ⟨fun E E' δ le ⟨I, h0, h⟩ => ⟨I, h0, fun m δ1 i1 => hc.mono _ _ _ _ _ (fun b δ2 h2 => ?_) le.xx (h m δ1 i1)⟩, ps_imp (ps_while hp hc.run hb.run) fun Dn σ H ⟨W, δ, er, I, ⟨m0, h0⟩, q⟩ => ?_⟩
  · cases b with
    | true => exact hb.mono _ _ _ (loopE.le le fun _ h => h) h2
    | false => exact le.nx _ h2
  · refine ⟨fun m σ' H' => ∃ W' δ', Step W H W' H' ∧ ER X.K B W' σ' H' δ' ∧ I m δ', ⟨m0, W, δ, .refl, er, h0⟩, ?_⟩
    rintro m σ' H' ⟨W', δ', s', er', hI⟩
    refine ⟨W', δ', er', hc.mono _ _ _ _ _ (fun b δ2 h2 v H2 W2 s2 er2 r2 => ?_) (fun x δ1 h1 c dd H1 W1 s1 er1 r1 => h1 c dd σ' H1 W1 (s'.trans s1) er1 r1) (q m δ' hI)⟩
    subst r2
    cases v with
    | true =>
      refine ⟨fun σ3 H3 => ∃ m', m' < m ∧ ∃ W3 δ3, Step W H W3 H3 ∧ ER X.K B W3 σ3 H3 δ3 ∧ I m' δ3, fun σ3 H3 h3 => h3, W2, δ2, er2, hb.mono (loopE _ _) _ _ ⟨fun δ3 h3 σ3 H3 W3 s3 er3 => ?_, fun d δ3 h3 v σ3 H3 W3 s3 er3 r3 => ?_, fun δ3 h3 σ3 H3 W3 s3 er3 => ?_, fun δ3 h3 σ3 H3 W3 s3 er3 => ?_, fun x δ3 h3 c dd σ3 H3 W3 s3 er3 r3 => ?_⟩ h2⟩
      · obtain ⟨m', l, i⟩ := h3; exact ⟨m', l, W3, δ3, (s'.trans s2).trans s3, er3, i⟩
      · exact h3 v σ3 H3 W3 ((s'.trans s2).trans s3) er3 r3
      · exact h3 σ3 H3 W3 ((s'.trans s2).trans s3) er3
      · obtain ⟨m', l, i⟩ := h3; exact ⟨m', l, W3, δ3, (s'.trans s2).trans s3, er3, i⟩
      · exact h3 c dd σ3 H3 W3 ((s'.trans s2).trans s3) er3 r3
    | false => exact h2 _ _ _ (s'.trans s2) er2
end
end DL

namespace DL
open PySem PySem.Spec PyProof.Rows L2
/-! ### comprehensions -/
def wx0 : WX := fun _ _ _ _ => False
def xF : XC := fun _ _ => False
def dYes : DT := fun δ Q _ => Q true δ
def wipeD (δ : DEnv) : List Nat → DEnv
  | [] => δ
  | v :: vs => (wipeD δ vs).set v .no
def keepV : Option S → S
  | some (.v d) => .v d
  | _ => .no
def backD (δ0 δ : DEnv) : List Nat → DEnv
  | [] => δ
  | v :: vs => (backD δ0 δ vs).set v (keepV δ0[v]?)
def compD (tg : DG) (tt : DT) (te : DE) (vs : List Nat) : List D → List D → DEnv → (List D → DEnv → Prop) → Prop
  | [], acc, δ, Q => Q acc δ
  | d :: ds, acc, δ, Q => tg d δ fun δ1 => tt δ1 (fun b δ2 => if b = true then te δ2 (fun y δ3 => acc.length < sizeLine ∧ compD tg tt te vs ds (acc ++ [y]) (wipeD δ3 vs) Q) xF else compD tg tt te vs ds acc (wipeD δ2 vs) Q) xF
def dComp (src : DI) (tg : DG) (tt : DT) (te : DE) (vs : List Nat) : DE := fun δ Q E => src δ (fun ds δ1 => compD tg tt te vs ds [] (wipeD δ1 vs) fun acc δ2 => Q (.lst acc) (backD δ1 δ2 vs)) E
section
variable {K : PySem.W.Frag} {B : Bd} {W : AS} {σ : L2.St} {H H' : Hp} {δ δ0 : DEnv}
theorem ER.wiped (er : ER K B W σ H δ) : ∀ vs : List Nat, ER K B W (wipe σ vs) H (wipeD δ vs)
  | [] => er
  | v :: vs => (ER.wiped er vs).lose v
theorem NoSlot.wiped {a : Addr} (n : NoSlot σ δ a) : ∀ vs : List Nat, NoSlot (wipe σ vs) (wipeD δ vs) a
  | [] => n
  | v :: vs => fun j e hj hs => by
    have ih := NoSlot.wiped n vs
    show False
    have hj' : ((wipeD δ vs).set v .no)[j]? = some (.own e) ∨ ((wipeD δ vs).set v .no)[j]? = some (.lent e) := hj
    have hs' : ((wipe σ vs).set v none)[j]? = some (some (.ref a)) := hs
    by_cases hv : v = j
    · subst hv
      rw [List.getElem?_set] at hj'
      simp only [if_true] at hj'
      rcases hj' with h | h <;> split at h <;> cases h
    · rw [List.getElem?_set_ne hv] at hj' hs'
      exact ih j e hj' hs'
theorem wipe_set {v : Option V} {i : Nat} : ∀ {vs : List Nat}, i ∈ vs → wipe (σ.set i v) vs = wipe σ vs
  | w :: vs, h => by
    show (wipe (σ.set i v) vs).set w none = (wipe σ vs).set w none
    by_cases hw : i = w
    · subst hw
      have : ∀ (σ : L2.St) (v : Option V) (vs : List Nat), (wipe (σ.set i v) vs).set i none = (wipe σ vs).set i none := by
        intro σ v vs
        induction vs with
        | nil => show (σ.set i v).set i none = σ.set i none; rw [List.set_set]
        | cons u us ih =>
          show ((wipe (σ.set i v) us).set u none).set i none = ((wipe σ us).set u none).set i none
          by_cases hu : u = i
          · subst hu; rw [List.set_set, List.set_set]; exact ih
          · rw [List.set_comm _ _ hu, List.set_comm _ _ hu, ih]
      exact this σ v vs
    · rw [wipe_set (List.mem_of_ne_of_mem hw h)]
theorem wipe_wipe : ∀ (us : List Nat), wipe (wipe σ us) us = wipe σ us
  | [] => rfl
  | u :: us => by
    show (wipe ((wipe σ us).set u none) us).set u none = (wipe σ us).set u none
    have e : ∀ (us : List Nat) (τ : L2.St), (wipe (τ.set u none) us).set u none = (wipe τ us).set u none := by
      intro us
      induction us with
      | nil => intro τ; show (τ.set u none).set u none = τ.set u none; rw [List.set_set]
      | cons z us ih =>
        intro τ
        show ((wipe (τ.set u none) us).set z none).set u none = ((wipe τ us).set z none).set u none
        by_cases hu : z = u
        · subst hu; rw [List.set_set, List.set_set]; exact ih τ
        · rw [List.set_comm _ _ hu, List.set_comm _ _ hu, ih]
    rw [e, wipe_wipe us]
/-- a guarded thing that no slot holds is written -/
theorem ER.poke {a : Addr} {o : HO} (er : ER K B W σ H δ) (n : NoSlot σ δ a) (w : W a) (h0 : B.H0 a = Option.none) (nt : ∀ xs : List V, H a = some (.tup xs) → False) : ER K B W σ (upd H a o) δ := by
  have st : Step W H W (upd H a o) := .write w nt
  refine ⟨er.len, fun b u hb m => ?_, er.sup, fun b hb => ?_, fun j e hj => ?_, fun j e hj => ?_, fun j e hj => ?_, er.dst⟩
  · rw [upd_ne fun z => by rw [z, h0] at hb; cases hb]; exact er.keep b u hb m
  · by_cases e : b = a
    · rw [e, upd_same]; exact ⟨_, rfl⟩
    · rw [upd_ne e]; exact er.trk b hb
  · obtain ⟨v, q, r⟩ := er.val j e hj; exact ⟨v, q, r.step st⟩
  · obtain ⟨b, q, w2, n2, o2⟩ := er.own j e hj
    exact ⟨b, q, w2, n2, o2.step st (upd_ne fun z => n j e (.inl hj) (z ▸ q))⟩
  · obtain ⟨b, q, w2, o2⟩ := er.lent j e hj
    exact ⟨b, q, w2, o2.step st (upd_ne fun z => n j e (.inr hj) (z ▸ q))⟩
/-- behind the block: the outer slots again -/
theorem ER.backed {σ' : L2.St} {W0 : AS} {H1 : Hp} (er0 : ER K B W0 σ H1 δ0) (st : Step W0 H1 W H) : ∀ vs : List Nat, ER K B W (wipe σ vs) H δ → (∀ i, i ∈ vs → ∀ d, δ[i]? ≠ some (.own d) ∧ δ[i]? ≠ some (.lent d)) → ER K B W σ H (backD δ0 δ vs) ∧ ∀ a, NoSlot (wipe σ vs) δ a → NoSlot σ (backD δ0 δ vs) a := by
  intro vs er hno
  have len : (backD δ0 δ vs).length = δ.length := by
    have : ∀ vs, (backD δ0 δ vs).length = δ.length := by
      intro vs
      induction vs with
      | nil => rfl
      | cons v vs ih => show ((backD δ0 δ vs).set v _).length = _; rw [List.length_set, ih]
    exact this vs
  have inn : ∀ (vs : List Nat) (i : Nat), i ∈ vs → i < δ.length → (backD δ0 δ vs)[i]? = some (keepV δ0[i]?) := by
    intro vs
    induction vs with
    | nil => intro i h; cases h
    | cons v vs ih =>
      intro i h hl
      show ((backD δ0 δ vs).set v _)[i]? = _
      have hlen : (backD δ0 δ vs).length = δ.length := by
        have : ∀ vs, (backD δ0 δ vs).length = δ.length := by
          intro vs
          induction vs with
          | nil => rfl
          | cons v vs ih => show ((backD δ0 δ vs).set v _).length = _; rw [List.length_set, ih]
        exact this vs
      by_cases hv : v = i
      · subst hv; rw [List.getElem?_set_self (by rw [hlen]; exact hl)]
      · rw [List.getElem?_set_ne hv]
        exact ih i (List.mem_of_ne_of_mem (Ne.symm hv) h) hl
  have out : ∀ (vs : List Nat) (i : Nat), i ∉ vs → (backD δ0 δ vs)[i]? = δ[i]? := by
    intro vs
    induction vs with
    | nil => intro i h; rfl
    | cons v vs ih =>
      intro i h
      show ((backD δ0 δ vs).set v _)[i]? = _
      rw [List.getElem?_set_ne (fun z => h (by rw [z]; exact List.mem_cons_self))]
      exact ih i (fun z => h (List.mem_cons_of_mem _ z))
  have ln : σ.length = δ.length := by rw [← er.len, wipe_length]
  have pick : ∀ {i : Nat} {s : S}, (backD δ0 δ vs)[i]? = some s → (i ∉ vs ∧ δ[i]? = some s ∧ (wipe σ vs)[i]? = σ[i]?) ∨ (i ∈ vs ∧ s = keepV δ0[i]?) := fun {i s} h => by
    by_cases hi : i ∈ vs
    · have hl : i < δ.length := by rw [← len]; exact (List.getElem?_eq_some_iff.mp h).1
      rw [inn vs i hi hl] at h
      exact .inr ⟨hi, (Option.some.inj h).symm⟩
    · rw [out vs i hi] at h
      exact .inl ⟨hi, h, wipe_out hi⟩
  have kv : ∀ {i : Nat}, (∀ d, keepV δ0[i]? ≠ .own d) ∧ ∀ d, keepV δ0[i]? ≠ .lent d := fun {i} => by
    constructor <;> intro d h <;> unfold keepV at h <;> split at h <;> cases h
  have f : ∀ {i : Nat} {d : D}, ((backD δ0 δ vs)[i]? = some (.own d) ∨ (backD δ0 δ vs)[i]? = some (.lent d)) → (δ[i]? = some (.own d) ∨ δ[i]? = some (.lent d)) ∧ (wipe σ vs)[i]? = σ[i]? := fun {i d} h => by
      rcases h with h | h
      · rcases pick h with ⟨_, h, e⟩ | ⟨_, h⟩
        · exact ⟨.inl h, e⟩
        · exact absurd h.symm (kv.1 d)
      · rcases pick h with ⟨_, h, e⟩ | ⟨_, h⟩
        · exact ⟨.inr h, e⟩
        · exact absurd h.symm (kv.2 d)
  refine ⟨⟨by rw [len]; exact ln, er.keep, er.sup, er.trk, fun i d h => ?_, fun i d h => ?_, fun i d h => ?_, fun i j b d e h1 h2 h3 h4 => ?_⟩, fun a n j e hj hs => n j e (f hj).1 ((f hj).2.trans hs)⟩
  · rcases pick h with ⟨_, h, e⟩ | ⟨_, h⟩
    · obtain ⟨v, q, r⟩ := er.val i d h
      exact ⟨v, e ▸ q, r⟩
    · unfold keepV at h
      split at h
      · rename_i d' hd
        cases h
        obtain ⟨v, q, r⟩ := er0.val i _ hd
        exact ⟨v, q, r.step st⟩
      · cases h
  · rcases pick h with ⟨_, h, e⟩ | ⟨_, h⟩
    · obtain ⟨v, q, r⟩ := er.own i d h
      exact ⟨v, e ▸ q, r⟩
    · exact absurd h.symm (kv.1 d)
  · rcases pick h with ⟨_, h, e⟩ | ⟨_, h⟩
    · obtain ⟨v, q, r⟩ := er.lent i d h
      exact ⟨v, e ▸ q, r⟩
    · exact absurd h.symm (kv.2 d)
  · obtain ⟨g1, e1⟩ := f h1
    obtain ⟨g2, e2⟩ := f h2
    exact er.dst i j b d e g1 g2 (e1.trans h3) (e2.trans h4)
theorem wipeD_no : ∀ {vs : List Nat} {i : Nat}, i ∈ vs → ∀ d : D, (wipeD δ vs)[i]? ≠ some (.own d) ∧ (wipeD δ vs)[i]? ≠ some (.lent d)
  | w :: vs, i, h, d => by
    show ((wipeD δ vs).set w .no)[i]? ≠ _ ∧ ((wipeD δ vs).set w .no)[i]? ≠ _
    by_cases hw : w = i
    · subst hw
      rw [List.getElem?_set]
      simp only [if_true]
      constructor <;> intro h <;> split at h <;> cases h
    · rw [List.getElem?_set_ne hw]
      exact wipeD_no (List.mem_of_ne_of_mem (Ne.symm hw) h) d
/-- the frame with a thing more that is held -/
def Bd.plus (B : Bd) (a : Addr) (o : HO) : Bd where
  W0 := addW B.W0 a
  H0 := upd B.H0 a o
  M0 := B.M0
  w0 := fun b hb => by
    by_cases e : b = a
    · rw [e, upd_same]; exact ⟨_, rfl⟩
    · rw [upd_ne e]
      rcases hb with hb | hb
      · exact B.w0 b hb
      · exact absurd hb e
  m0 := fun b hb => .inl (B.m0 b hb)
theorem ER.plus {a : Addr} {o : HO} (er : ER K B W σ H δ) (n : NoSlot σ δ a) (w : W a) (h : H a = some o) : ER K (B.plus a o) W σ H δ where
  len := er.len
  keep := fun b u hb m => by
    by_cases e : b = a
    · subst e
      have : some o = some u := upd_same.symm.trans hb
      cases this; exact h
    · exact er.keep b u ((upd_ne e).symm.trans hb) m
  sup := fun b hb => hb.elim (er.sup b) fun z => by rw [z]; exact w
  trk := er.trk
  val := er.val
  own := fun i d hi => by
    obtain ⟨b, q, w2, n2, o2⟩ := er.own i d hi
    have e : b ≠ a := fun z => n i d (.inl hi) (z ▸ q)
    exact ⟨b, q, w2, (upd_ne e).trans n2, o2⟩
  lent := er.lent
  dst := er.dst
theorem ER.minus {a : Addr} {o : HO} (h0 : B.H0 a = Option.none) (er : ER K (B.plus a o) W σ H δ) : ER K B W σ H δ ∧ NoSlot σ δ a ∧ W a ∧ H a = some o := by
  have nm : ¬ B.M0 a := fun m => by
    obtain ⟨u, q⟩ := B.w0 a (B.m0 a m)
    rw [h0] at q; cases q
  have ow : ∀ {b : Addr}, (B.plus a o).H0 b = Option.none → b ≠ a ∧ B.H0 b = Option.none := fun {b} q => by
    have e : b ≠ a := fun z => by
      subst z
      have : some o = Option.none := upd_same.symm.trans q
      cases this
    exact ⟨e, (upd_ne e).symm.trans q⟩
  refine ⟨⟨er.len, fun b u hb m => er.keep b u ((upd_ne fun z => by rw [z, h0] at hb; cases hb).trans hb) m, fun b hb => er.sup b (.inl hb), er.trk, er.val, fun i d hi => ?_, er.lent, er.dst⟩, fun j e hj hs => ?_, er.sup a (.inr rfl), er.keep a o upd_same nm⟩
  · obtain ⟨b, q, w2, n2, o2⟩ := er.own i d hi
    exact ⟨b, q, w2, (ow n2).2, o2⟩
  · rcases hj with hj | hj
    · obtain ⟨b, q, w2, n2, o2⟩ := er.own j e hj
      rw [hs] at q; cases q
      exact (ow n2).1 rfl
    · obtain ⟨b, q, w2, o2⟩ := er.lent j e hj
      rw [hs] at q; cases q
      exact nm w2
end
section
variable {X : Cx} {B : Bd} {wx : WX} {fr : Bool} {pos p : Pos} {a b c e : Expr} {es : List Expr} {f f1 f2 f3 : DE} {k i : Nat} {fa : DA} {x : Str} {tt : DT} {te : DE} {src : DI} {tg : DG} {tgs : DGs} {vs : List Nat}
/-- a comprehension's target: what it is read by, over slots of its own -/
structure PGC (K : PySem.W.Frag) (vs : List Nat) (t : TG) (tg : DG) : Prop where
  mono : MonoT tg
  run : ∀ (B : Bd) v σ H Q W δ d (P : DEnv → Prop), ER K B W σ H δ → Rep K W H v d → tg d δ P → (∀ σ' δ', P δ' → ER K B W σ' H δ' → wipe σ' vs = wipe σ vs → Q σ' H) → t v σ H Q
structure PGCs (K : PySem.W.Frag) (vs : List Nat) (t : TGs) (tg : DGs) : Prop where
  mono : MonoTs tg
  run : ∀ (B : Bd) v σ H Q W δ d (P : DEnv → Prop), ER K B W σ H δ → Reps K W H v d → tg d δ P → (∀ σ' δ', P δ' → ER K B W σ' H δ' → wipe σ' vs = wipe σ vs → Q σ' H) → t v σ H Q
theorem pgc_name {K : PySem.W.Frag} (h : i ∈ vs) : PGC K vs (gName i) (tgName i) :=
  ⟨fun d δ Q Q' k h => k _ h, fun B v σ H Q W δ d P er r q k => k _ _ q (er.set r) (wipe_set h)⟩
theorem pgc_nil {K : PySem.W.Frag} : PGCs K vs gNil tgNil :=
  ⟨fun d δ Q Q' k h => ⟨h.1, k _ h.2⟩, fun B v σ H Q W δ d P er r ⟨e, q⟩ k => by subst e; cases r; exact ⟨rfl, k σ δ q er rfl⟩⟩
theorem pgc_cons {K : PySem.W.Frag} {t : TG} {ts : TGs} (h1 : PGC K vs t tg) (h2 : PGCs K vs ts tgs) : PGCs K vs (gCons t ts) (tgCons tg tgs) :=
  ⟨fun ds δ Q Q' k ⟨d, r, e, h⟩ => ⟨d, r, e, h1.mono _ _ _ _ (fun δ' h => h2.mono _ _ _ _ k h) h⟩, fun B v σ H Q W δ ds P er r ⟨d, dr, e, q⟩ k => by
    subst e
    cases r with
    | cons r rr => exact ⟨_, _, rfl, h1.run B _ _ _ _ W δ d _ er r q fun σ' δ' q' er' w' => h2.run B _ _ _ _ W δ' dr _ er' rr q' fun σ2 δ2 q2 er2 w2 => k σ2 δ2 q2 er2 (w2.trans w')⟩⟩
theorem pgc_tup {K : PySem.W.Frag} {ts : TGs} {n : Nat} (h : PGCs K vs ts tgs) : PGC K vs (gTup K n ts) (tgTup tgs n) :=
  ⟨fun d δ Q Q' k ⟨ds, e, l, h'⟩ => ⟨ds, e, l, h.mono _ _ _ _ k h'⟩, fun B v σ H Q W δ d P er r ⟨ds, e, l, q⟩ k => by
    subst e
    cases r with
    | tup lw rs => exact ⟨_, _, rfl, lw.sq, by rw [rs.length]; exact l, h.run B _ _ _ _ W δ ds _ er rs q k⟩⟩
theorem pgc_lst {K : PySem.W.Frag} {ts : TGs} {n : Nat} (h : PGCs K vs ts tgs) : PGC K vs (gLst K n ts) (tgLst tgs n) :=
  ⟨fun d δ Q Q' k ⟨ds, e, l, h'⟩ => ⟨ds, e, l, h.mono _ _ _ _ k h'⟩, fun B v σ H Q W δ d P er r ⟨ds, e, l, q⟩ k => by
    subst e
    cases r with
    | lst lw rs => exact ⟨_, _, rfl, lw.sq, by rw [rs.length]; exact l, h.run B _ _ _ _ W δ ds _ er rs q k⟩⟩
structure PTsD (X : Cx) (ifs : List Expr) (t : DT) : Prop where
  mono : Mono t
  run : PTs X ifs (fun σ H Q => ∃ B, liftT X.K B wx0 t σ H Q)
theorem ptsd_nil : PTsD X [] dYes := ⟨fun _ _ _ _ _ k _ h => k _ _ h, ⟨fun pins s σ H Q I ⟨B, W, δ, er, q⟩ => pts_nil.run pins s σ H Q I (q _ H W .refl er rfl)⟩⟩
def Bd.nil : Bd := ⟨fun _ => False, none0, fun _ => False, fun _ h => h.elim, fun _ h => h.elim⟩
theorem ptsd_one (h : ∀ B, PTD X B wx0 c tt) : PTsD X [c] tt := ⟨(h Bd.nil).mono, ⟨fun pins s σ H Q I ⟨B, q⟩ => (pts_one (h B).run).run pins s σ H Q I q⟩⟩
theorem compD_mono (mt : MonoT tg) (m1 : Mono tt) (m2 : Mono te) : ∀ (ds acc : List D) (δ : DEnv) (Q Q' : List D → DEnv → Prop), (∀ a δ', Q a δ' → Q' a δ') → compD tg tt te vs ds acc δ Q → compD tg tt te vs ds acc δ Q'
  | [], acc, δ, Q, Q', k, h => k _ _ h
  | d :: ds, acc, δ, Q, Q', k, h => mt _ _ _ _ (fun δ1 h => m1 _ _ _ _ _ (fun b δ2 h => by
      cases b with
      | true => exact m2 _ _ _ _ _ (fun y δ3 h => ⟨h.1, compD_mono mt m1 m2 ds _ _ _ _ k h.2⟩) (fun _ _ z => z) h
      | false => exact compD_mono mt m1 m2 ds _ _ _ _ k h) (fun _ _ z => z) h) h
theorem mono_comp (ms : Mono src) (mt : MonoT tg) (m1 : Mono tt) (m2 : Mono te) : Mono (dComp src tg tt te vs) := fun δ Q Q' E E' k ke h =>
  ms _ _ _ _ _ (fun ds δ1 h => compD_mono mt m1 m2 ds _ _ _ _ (fun a δ' h => k _ _ h) h) ke h
theorem lc_run {K : PySem.W.Frag} {t : TG} (hi : Mono src) (hg : PGC K vs t tg) (m1 : Mono tt) (m2 : Mono te) (σ : L2.St) (H : Hp) (Q : VK) (h : liftF K B wx (dComp src tg tt te vs) σ H Q) :
    tLc (liftI K B wx src) t (fun σ H Q => ∃ B, liftT K B wx0 tt σ H Q) (fun σ H Q => ∃ B, liftE K B wx0 te σ H Q) vs σ H Q := by
  obtain ⟨W, δ, er, q⟩ := h
  refine ⟨W, δ, er, hi _ _ _ _ _ (fun ds δ1 h1 J H1 W1 s1 er1 it => ?_) (fun _ _ z => z) q⟩
  intro Dd hD
  have sm : Same H1 (upd H1 Dd (.lst [])) := same_new hD
  obtain ⟨er2, ns2⟩ := er1.alloc sm hD ⟨_, upd_same⟩
  have h0 : B.H0 Dd = Option.none := er1.h0 hD
  have st2 : Step W1 H1 (addW W1 Dd) (upd H1 Dd (.lst [])) := .alloc sm hD
  refine ⟨fun i m H' => m = ds.length - i ∧ i ≤ ds.length ∧ ∃ W' δ' acc accV, Step W1 H1 W' H' ∧ W' Dd ∧ NoSlot (wipe σ vs) δ' Dd ∧ ER K B W' (wipe σ vs) H' δ' ∧ (∀ i, i ∈ vs → ∀ d, δ'[i]? ≠ some (.own d) ∧ δ'[i]? ≠ some (.lent d)) ∧ H' Dd = some (.lst accV) ∧ Reps K W' H' accV acc ∧
      compD tg tt te vs (ds.drop i) acc δ' (fun acc δ2 => Fst K B σ W H Q (.lst acc) (backD δ1 δ2 vs)), ⟨ds.length, by simp, Nat.zero_le _, _, wipeD δ1 vs, [], [], st2, .inr rfl, ns2.wiped vs, er2.wiped vs, fun i hi d => wipeD_no hi d, upd_same, .nil, by simpa using h1⟩, ?_⟩
  rintro i m H' ⟨rfl, hil, W', δ', acc, accV, s', wD, nsD, er', no', hDd, rs', h'⟩
  by_cases hlt : i < ds.length
  · refine .inr ⟨it.go i H' W' s' hlt, fun H' => ds.length - (i + 1) = ds.length - (i + 1) ∧ i + 1 ≤ ds.length ∧ ∃ W' δ' acc accV, Step W1 H1 W' H' ∧ W' Dd ∧ NoSlot (wipe σ vs) δ' Dd ∧ ER K B W' (wipe σ vs) H' δ' ∧ (∀ i, i ∈ vs → ∀ d, δ'[i]? ≠ some (.own d) ∧ δ'[i]? ≠ some (.lent d)) ∧ H' Dd = some (.lst accV) ∧ Reps K W' H' accV acc ∧
      compD tg tt te vs (ds.drop (i + 1)) acc δ' (fun acc δ2 => Fst K B σ W H Q (.lst acc) (backD δ1 δ2 vs)), fun H2 h2 => ⟨ds.length - (i + 1), by omega, h2⟩, fun x H2 y => ?_⟩
    obtain ⟨sm2, d, hd, rd⟩ := it.yld i H' W' x H2 s' er'.trk y hlt
    have ed : ds.drop i = d :: ds.drop (i + 1) := by
      rw [List.drop_eq_getElem_cons hlt]
      have : ds[i] = d := by rw [List.getElem?_eq_getElem hlt] at hd; exact Option.some.inj hd
      rw [this]
    rw [ed] at h'
    have s2' : Step W' H' W' H2 := .same sm2
    have erP : ER K (B.plus Dd (.lst accV)) W' (wipe σ vs) H2 δ' := (er'.grow sm2).plus nsD wD (sm2 _ _ hDd)
    refine hg.run (B.plus Dd (.lst accV)) x _ H2 _ W' δ' d _ erP rd h' fun σ3 δ3 h3 er3 w3 => ⟨w3.trans (wipe_wipe vs), ?_⟩
    have w3' : wipe σ3 vs = wipe σ vs := w3.trans (wipe_wipe vs)
    refine ⟨B.plus Dd (.lst accV), W', δ3, er3, m1 _ _ _ _ _ (fun b δ4 h4 v4 H4 W4 s4 er4 r4 => ?_) (fun _ _ z => z.elim) h3⟩
    subst r4
    cases v4 with
    | true =>
      rw [if_pos rfl]
      refine ⟨B.plus Dd (.lst accV), W4, δ4, er4, m2 _ _ _ _ _ (fun y δ5 h5 v5 H5 W5 s5 er5 r5 => ?_) (fun _ _ z => z.elim) h4⟩
      obtain ⟨er6, ns6, w6, hD6⟩ := er5.minus h0
      have n7 : NoSlot (wipe σ vs) (wipeD δ5 vs) Dd := by rw [← w3']; exact ns6.wiped vs
      have e7 : ER K B W5 (wipe σ vs) H5 (wipeD δ5 vs) := by rw [← w3']; exact er6.wiped vs
      have s7 : Step W' H' W5 H5 := (s2'.trans s4).trans s5
      have nt6 : ∀ xs : List V, H5 Dd = some (.tup xs) → False := fun zs e => by rw [hD6] at e; cases e
      refine ⟨accV, hD6, by rw [rs'.length]; exact h5.1, rfl, hlt, W5, wipeD δ5 vs, acc ++ [y], accV ++ [v5], (s'.trans s7).trans (.write w6 nt6), w6, n7, e7.poke n7 w6 h0 nt6, fun i hi d => wipeD_no hi d, upd_same, ?_, h5.2⟩
      exact ((rs'.step s7).step (.write w6 nt6)).append (.cons (r5.step (.write w6 nt6)) .nil)
    | false =>
      rw [if_neg Bool.false_ne_true]
      obtain ⟨er6, ns6, w6, hD6⟩ := er4.minus h0
      have n7 : NoSlot (wipe σ vs) (wipeD δ4 vs) Dd := by rw [← w3']; exact ns6.wiped vs
      have e7 : ER K B W4 (wipe σ vs) H4 (wipeD δ4 vs) := by rw [← w3']; exact er6.wiped vs
      have s7 : Step W' H' W4 H4 := s2'.trans s4
      exact ⟨rfl, hlt, W4, wipeD δ4 vs, acc, accV, s'.trans s7, w6, n7, e7, fun i hi d => wipeD_no hi d, hD6, rs'.step s7, h4⟩
  · have e : i = ds.length := by omega
    subst e
    refine .inl ⟨it.stop _ H' W' s' (Nat.le_refl _), ?_⟩
    rw [List.drop_length] at h'
    obtain ⟨er8, ns8⟩ := ER.backed (σ' := σ) er1 s' vs er' no'
    exact h' Dd H' W' (s1.trans s') er8 (s1.live Dd hD) wD ⟨accV, hDd, rs'⟩ (ns8 Dd nsD)
variable {elt tge iter : Expr} {ifs : List Expr} {scope : Scope} {own : List (Str × Nat)} {t : TG}
/-- [elt for target in iter if ..]: a fresh list -/
theorem pf_lc (hc : X.calm = true) (hN : X.N.Nodup) (hi : PID X B wx tge iter src) (ok : BlkOk X.N X.env.scope scope own) (hgc : PGC X.K (own.map (·.2)) t tg)
    (hg : ∀ (s : Shared) (H : Hp) (C : Addr) (cl : List (Str × Addr)) (fp : List Addr), PG (X.blk s H scope (compEnvC scope cl C X.env) fp) tge t)
    (ht : ∀ (s : Shared) (H : Hp) (C : Addr) (cl : List (Str × Addr)) (fp : List Addr), PTsD (X.blk s H scope (compEnvC scope cl C X.env) fp) ifs tt)
    (he : ∀ (s : Shared) (H : Hp) (C : Addr) (cl : List (Str × Addr)) (fp : List Addr) (B' : Bd), PD (X.blk s H scope (compEnvC scope cl C X.env) fp) B' wx0 elt te) (hs : ∀ x, foldedSetIterable iter X.env x = pure x := by intro _; rfl) :
    PF X B wx (.ListComp elt [⟨tge, iter, ifs, 0⟩] scope pos) (dComp src tg tt te (own.map (·.2))) :=
  have m1 := (ht {} none0 0 [] []).mono
  have m2 := (he {} none0 0 [] [] Bd.nil).mono
  ⟨mono_comp hi.mono hgc.mono m1 m2, pe_imp (pe_lc hc hN hi.run ok hg (fun s H C cl fp => (ht s H C cl fp).run) (fun s H C cl fp => ⟨fun pins s' σ H' Q I ⟨B', q⟩ => (he s H C cl fp B').run.run pins s' σ H' Q I q⟩) hs) (lc_run hi.mono hgc m1 m2)⟩
section
variable {i : Nat} {y : Str} {py spos : Pos}
theorem setLc_ps (hc : X.calm = true) (hN : X.N.Nodup) (hy : X.N[i]? = some y) (hyl : X.env.scope.names.lookup y = some .local)
    (hsw : swapsWith (.ListComp elt [⟨tge, iter, ifs, 0⟩] scope pos) (some (.Name y py)) spos.line X.env = pure true) (hi : PID X B wx tge iter src) (ok : BlkOk X.N X.env.scope scope own)
    (hg : ∀ (s : Shared) (H : Hp) (C : Addr) (cl : List (Str × Addr)) (fp : List Addr), PG (X.blk s H scope (compEnvC scope cl C X.env) fp) tge t)
    (ht : ∀ (s : Shared) (H : Hp) (C : Addr) (cl : List (Str × Addr)) (fp : List Addr), PTsD (X.blk s H scope (compEnvC scope cl C X.env) fp) ifs tt)
    (he : ∀ (s : Shared) (H : Hp) (C : Addr) (cl : List (Str × Addr)) (fp : List Addr) (B' : Bd), PD (X.blk s H scope (compEnvC scope cl C X.env) fp) B' wx0 elt te) (hs : ∀ x, foldedSetIterable iter X.env x = pure x) :
    PS X (.Assign [.Name y py] (.ListComp elt [⟨tge, iter, ifs, 0⟩] scope pos) spos) (tAsg (tLc (liftI X.K B wx src) t (fun σ H Q => ∃ B, liftT X.K B wx0 tt σ H Q) (fun σ H Q => ∃ B, liftE X.K B wx0 te σ H Q) (own.map (·.2))) (gName i)) :=
  ps_setLc hc hN hy hyl hsw hi.run ok hg (fun s H C cl fp => (ht s H C cl fp).run) (fun s H C cl fp => ⟨fun pins s' σ H' Q I ⟨B', q⟩ => (he s H C cl fp B').run.run pins s' σ H' Q I q⟩) hs
/-- name = [..]: the list is owned -/
theorem psd_setLcO (hc : X.calm = true) (hN : X.N.Nodup) (hy : X.N[i]? = some y) (hyl : X.env.scope.names.lookup y = some .local)
    (hsw : swapsWith (.ListComp elt [⟨tge, iter, ifs, 0⟩] scope pos) (some (.Name y py)) spos.line X.env = pure true) (hi : PID X B wx tge iter src) (ok : BlkOk X.N X.env.scope scope own) (hgc : PGC X.K (own.map (·.2)) t tg)
    (hg : ∀ (s : Shared) (H : Hp) (C : Addr) (cl : List (Str × Addr)) (fp : List Addr), PG (X.blk s H scope (compEnvC scope cl C X.env) fp) tge t)
    (ht : ∀ (s : Shared) (H : Hp) (C : Addr) (cl : List (Str × Addr)) (fp : List Addr), PTsD (X.blk s H scope (compEnvC scope cl C X.env) fp) ifs tt)
    (he : ∀ (s : Shared) (H : Hp) (C : Addr) (cl : List (Str × Addr)) (fp : List Addr) (B' : Bd), PD (X.blk s H scope (compEnvC scope cl C X.env) fp) B' wx0 elt te) (hs : ∀ x, foldedSetIterable iter X.env x = pure x := by intro _; rfl) :
    PSD X B wx fr (.Assign [.Name y py] (.ListComp elt [⟨tge, iter, ifs, 0⟩] scope pos) spos) (dAsgO (dComp src tg tt te (own.map (·.2))) i) :=
  have m1 := (ht {} none0 0 [] []).mono
  have m2 := (he {} none0 0 [] [] Bd.nil).mono
  ⟨mono_asgO (mono_comp hi.mono hgc.mono m1 m2), ps_imp (setLc_ps hc hN hy hyl hsw hi ok hg ht he hs) fun D σ H h => lc_run hi.mono hgc m1 m2 σ H _ (asgO_run (mono_comp hi.mono hgc.mono m1 m2) D σ H h)⟩
theorem dAsg_of_own (m : Mono f) {K : PySem.W.Frag} (D : Ends) (σ : L2.St) (H : Hp) (h : liftS K B wx fr (dAsg f i) D σ H) : tAsg (liftF K B wx f) (gName i) D σ H := by
  obtain ⟨W, δ, er, q⟩ := h
  refine ⟨W, δ, er, m _ _ _ _ _ (fun d δ1 h1 a H1 W1 s1 er1 hn wa o ns => ?_) (fun x δ1 h1 c dd H1 W1 s1 er1 r1 => h1 c dd σ H1 W1 s1 er1 r1) q⟩
  have er2 := er1.unguard ns (er.w0 hn)
  exact h1 _ _ _ (s1.trans .sub) (er2.set ((Own.sub o).rep fun z => z.2 rfl))
/-- name = [..]: the list is only read -/
theorem psd_setLc (hc : X.calm = true) (hN : X.N.Nodup) (hy : X.N[i]? = some y) (hyl : X.env.scope.names.lookup y = some .local)
    (hsw : swapsWith (.ListComp elt [⟨tge, iter, ifs, 0⟩] scope pos) (some (.Name y py)) spos.line X.env = pure true) (hi : PID X B wx tge iter src) (ok : BlkOk X.N X.env.scope scope own) (hgc : PGC X.K (own.map (·.2)) t tg)
    (hg : ∀ (s : Shared) (H : Hp) (C : Addr) (cl : List (Str × Addr)) (fp : List Addr), PG (X.blk s H scope (compEnvC scope cl C X.env) fp) tge t)
    (ht : ∀ (s : Shared) (H : Hp) (C : Addr) (cl : List (Str × Addr)) (fp : List Addr), PTsD (X.blk s H scope (compEnvC scope cl C X.env) fp) ifs tt)
    (he : ∀ (s : Shared) (H : Hp) (C : Addr) (cl : List (Str × Addr)) (fp : List Addr) (B' : Bd), PD (X.blk s H scope (compEnvC scope cl C X.env) fp) B' wx0 elt te) (hs : ∀ x, foldedSetIterable iter X.env x = pure x := by intro _; rfl) :
    PSD X B wx fr (.Assign [.Name y py] (.ListComp elt [⟨tge, iter, ifs, 0⟩] scope pos) spos) (dAsg (dComp src tg tt te (own.map (·.2))) i) :=
  have m1 := (ht {} none0 0 [] []).mono
  have m2 := (he {} none0 0 [] [] Bd.nil).mono
  ⟨mono_asg (mono_comp hi.mono hgc.mono m1 m2), ps_imp (setLc_ps hc hN hy hyl hsw hi ok hg ht he hs) fun D σ H h => lc_run hi.mono hgc m1 m2 σ H _ (dAsg_of_own (mono_comp hi.mono hgc.mono m1 m2) D σ H h)⟩
end
end
/-! ### a def by its body -/
def startD (N : List Str) (ds : List D) : DEnv := ds.map .v ++ List.replicate (N.length - ds.length) .no
def startM (N : List Str) (d : D) (ds : List D) : DEnv := .lent d :: (ds.map .v ++ List.replicate (N.length - (ds.length + 1)) .no)
def fnE (fr : Bool) (Q : D → Prop) (E : XD → Prop) : DEnds := { nx := fun _ => fr = false ∧ Q .non, rt := fun d _ => Q d, bk := fun _ => False, ct := fun _ => False, xx := fun x _ => E x }
def fnM (fr : Bool) (Q : D → D → Prop) : DEnds := { nx := fun δ => fr = false ∧ ∃ d, δ[0]? = some (.lent d) ∧ Q .non d, rt := fun z δ => ∃ d, δ[0]? = some (.lent d) ∧ Q z d, bk := fun _ => False, ct := fun _ => False, xx := fun _ _ => False }
section
variable {P : Program} {w : World} {K : PySem.W.Frag} {mg : Str → Option Value} {base : Heap} {x qual : Str} {params : Arguments} {body : List Stmt} {scope : Scope} {f : Addr} {fd : FuncData} {N ps : List Str} {k : Nat}
theorem er_start {W : AS} {H : Hp} {vs : List V} {ds : List D} (t : ∀ a, W a → ∃ o, H a = some o) (r : Reps K W H vs ds) : ER K ⟨W, H, fun _ => False, t, fun _ h => h.elim⟩ W (L2.start N vs) H (startD N ds) := by
  have nov : ∀ {i : Nat} {s : S}, (startD N ds)[i]? = some s → (∃ d, ds[i]? = some d ∧ s = .v d) ∨ s = .no := fun {i s} h => by
    unfold startD at h
    rw [List.getElem?_append] at h
    split at h
    · rw [List.getElem?_map, Option.map_eq_some_iff] at h
      obtain ⟨d, e, rfl⟩ := h
      exact .inl ⟨d, e, rfl⟩
    · rw [List.getElem?_replicate] at h
      split at h
      · cases h; exact .inr rfl
      · cases h
  refine ⟨by simp [L2.start, startD, r.length], fun a o h _ => h, fun a h => h, t, fun i d h => ?_, fun i d h => ?_, fun i d h => ?_, fun i j a d e h1 _ _ _ => ?_⟩
  · rcases nov h with ⟨d', e, q⟩ | q
    · cases q
      obtain ⟨v, ev, rv⟩ := r.get e
      refine ⟨v, ?_, rv⟩
      unfold L2.start
      have hl : i < (vs.map some).length := by rw [List.length_map]; exact (List.getElem?_eq_some_iff.mp ev).1
      rw [List.getElem?_append_left hl, List.getElem?_map, ev]; rfl
    · cases q
  · rcases nov h with ⟨d', e, q⟩ | q <;> cases q
  · rcases nov h with ⟨d', e, q⟩ | q <;> cases q
  · rcases h1 with h1 | h1 <;> rcases nov h1 with ⟨d', e, q⟩ | q <;> cases q
theorem fn_ok0 {fr : Bool} {g : FD} {b : DS} (F : FunD K x qual params body scope [] [] f fd) (S : FnScope N ps scope) (hlen : ∀ ds Q E, g ds Q E → ds.length = ps.length)
    (hd : ∀ (cdv : Value) (A : Around) (outer : List Env) (s : Shared) (H : Hp) (E : XK) (B : Bd), Room k (A.deeper (envOfC qual scope s.heap.objs.size f cdv)) → PSsD (cxOf CX0 P w K mg base N qual scope f cdv A outer s H E).nox B wx0 fr body b)
    (hb : ∀ ds Q E, g ds Q E → b (fnE fr Q fun _ => False) (startD N ds)) : FnOk P w K mg base CX0 (k + 1) f fd ps (spD K fr g) := by
  refine F.ok S (fun vs H Q E ⟨W, ds, t, r, h⟩ => r.length.trans (hlen _ _ _ h)) fun cdv A outer s H vs Q E hr h => ?_
  obtain ⟨W, ds, t, r, h⟩ := h
  have Pd := hd cdv A outer s H E ⟨W, H, fun _ => False, t, fun _ h => h.elim⟩ hr
  refine ⟨_, Pd.run.nox, W, startD N ds, er_start t r, Pd.mono (fnE _ _ _) _ _ ⟨fun δ' h' σ' H' W' s' er' => ?_, fun d δ' h' v σ' H' W' s' er' r' => ?_, fun _ h => False.elim h, fun _ h => False.elim h, fun _ _ h => False.elim h⟩ (hb _ _ _ h)⟩
  · obtain ⟨e, h'⟩ := h'
    subst e
    exact h' _ H' (fun a o ha => er'.keep a o ha id) (show Rep K W H' .non .non from .non)
  · refine h' v H' (fun a o ha => er'.keep a o ha id) ?_
    cases fr with
    | false => exact (show Rep K W' H' v d from r').step ⟨fun _ _ h _ => h, fun a h => .inl (er'.sup a h), fun _ h => h, fun _ _ h => h⟩
    | true =>
      obtain ⟨a, rfl, hn, wa, o⟩ := (show ∃ a, v = .ref a ∧ H a = Option.none ∧ W' a ∧ Own K W' H' a d from r')
      exact ⟨a, rfl, hn, o.step ⟨fun _ _ h _ => h, fun b h => .inl (h.elim (er'.sup b) fun z => by rw [z]; exact wa), fun _ h => h, fun _ _ h => h⟩ rfl⟩
theorem er_startM {W : AS} {H : Hp} {a : Addr} {d : D} {vs : List V} {ds : List D} (t : ∀ a, W a → ∃ o, H a = some o) (wa : W a) (o : Own K W H a d) (r : Reps K W H vs ds) (hN : ds.length + 1 ≤ N.length) :
    ER K ⟨W, H, fun b => b = a, t, fun _ h => by rw [h]; exact wa⟩ W (L2.start N (.ref a :: vs)) H (startM N d ds) := by
  have nov : ∀ {i : Nat} {s : S}, (startM N d ds)[i]? = some s → (i = 0 ∧ s = .lent d) ∨ (∃ j d, i = j + 1 ∧ ds[j]? = some d ∧ s = .v d) ∨ s = .no := fun {i s} h => by
    unfold startM at h
    cases i with
    | zero => simp at h; exact .inl ⟨rfl, h.symm⟩
    | succ j =>
      rw [List.getElem?_cons_succ, List.getElem?_append] at h
      split at h
      · rw [List.getElem?_map, Option.map_eq_some_iff] at h
        obtain ⟨d, e, rfl⟩ := h
        exact .inr (.inl ⟨j, d, rfl, e, rfl⟩)
      · rw [List.getElem?_replicate] at h
        split at h
        · cases h; exact .inr (.inr rfl)
        · cases h
  refine ⟨by simp [L2.start, startM, r.length], fun a o h _ => h, fun a h => h, t, fun i d h => ?_, fun i d h => ?_, fun i d h => ?_, fun i j a d' e h1 h2 _ _ => ?_⟩
  · rcases nov h with ⟨_, q⟩ | ⟨j, d', rfl, e, q⟩ | q
    · cases q
    · cases q
      obtain ⟨v, ev, rv⟩ := r.get e
      refine ⟨v, ?_, rv⟩
      unfold L2.start
      have hl : j + 1 < ((V.ref a :: vs).map some).length := by rw [List.length_map, List.length_cons]; exact Nat.succ_lt_succ (List.getElem?_eq_some_iff.mp ev).1
      rw [List.getElem?_append_left hl, List.getElem?_map, List.getElem?_cons_succ, ev]; rfl
    · cases q
  · rcases nov h with ⟨_, q⟩ | ⟨j, d', rfl, e, q⟩ | q <;> cases q
  · rcases nov h with ⟨e0, q⟩ | ⟨j, d', rfl, e, q⟩ | q
    · cases q; subst e0; exact ⟨a, rfl, rfl, o⟩
    · cases q
    · cases q
  · have z : ∀ {i : Nat} {e : D}, ((startM N d ds)[i]? = some (.own e) ∨ (startM N d ds)[i]? = some (.lent e)) → i = 0 := fun {i e} h => by
      rcases h with h | h <;> rcases nov h with ⟨e0, q⟩ | ⟨j, d', rfl, e, q⟩ | q <;> first | exact e0 | cases q
    rw [z h1, z h2]
theorem fn_okM {fr : Bool} {g : FM} {b : DS} (F : FunD K x qual params body scope [] [] f fd) (S : FnScope N ps scope) (hlen : ∀ d ds Q, g d ds Q → ds.length + 1 = ps.length)
    (hd : ∀ (cdv : Value) (A : Around) (outer : List Env) (s : Shared) (H : Hp) (E : XK) (B : Bd), Room k (A.deeper (envOfC qual scope s.heap.objs.size f cdv)) → PSsD (cxOf CX0 P w K mg base N qual scope f cdv A outer s H E).nox B wx0 fr body b)
    (hb : ∀ d ds Q, g d ds Q → b (fnM fr Q) (startM N d ds)) : FnOk P w K mg base CX0 (k + 1) f fd ps (spM K fr g) := by
  have hpl : ps.length ≤ N.length := by have := congrArg List.length S.pre; rw [List.length_take] at this; omega
  refine F.ok S (fun vs H Q E ⟨W, a, d, vs', ds, t, e, wa, o, r, h⟩ => by rw [e, List.length_cons, r.length]; exact hlen _ _ _ h) fun cdv A outer s H vs Q E hr h => ?_
  obtain ⟨W, a, d, vs', ds, t, rfl, wa, o, r, h⟩ := h
  have hl := hlen _ _ _ h
  have Pd := hd cdv A outer s H E ⟨W, H, fun b => b = a, t, fun _ h => by rw [h]; exact wa⟩ hr
  have at0 : ∀ {σ' : L2.St} {H' : Hp} {W' : AS} {δ' : DEnv} {d' : D}, ER K ⟨W, H, fun b => b = a, t, fun _ h => by rw [h]; exact wa⟩ W' σ' H' δ' → δ'[0]? = some (.lent d') → Own K W' H' a d' := fun {σ' H' W' δ' d'} er h0 => by
    obtain ⟨b, q, m, o⟩ := er.lent 0 d' h0
    have m' : b = a := m
    rw [← m']; exact o
  have low' : ∀ {σ' : L2.St} {H' : Hp} {W' : AS} {δ' : DEnv}, ER K ⟨W, H, fun b => b = a, t, fun _ h => by rw [h]; exact wa⟩ W' σ' H' δ' → Step W' H' W H' := fun {σ' H' W' δ'} er => ⟨fun _ _ h _ => h, fun b h => .inl (er.sup b h), fun _ h => h, fun _ _ h => h⟩
  refine ⟨_, Pd.run.nox, W, startM N d ds, er_startM t wa o r (by omega), Pd.mono (fnM _ _) _ _ ⟨fun δ' h' σ' H' W' s' er' => ?_, fun z δ' h' v σ' H' W' s' er' r' => ?_, fun _ h => False.elim h, fun _ h => False.elim h, fun _ _ h => False.elim h⟩ (hb _ _ _ h)⟩
  · obtain ⟨e, d', h0, h'⟩ := h'
    subst e
    exact h' _ H' (fun b o hb n => er'.keep b o hb n) ((at0 er' h0).step (low' er') rfl) (show Rep K W H' .non .non from .non)
  · obtain ⟨d', h0, h'⟩ := h'
    refine h' v H' (fun b o hb n => er'.keep b o hb n) ((at0 er' h0).step (low' er') rfl) ?_
    cases fr with
    | false => exact (show Rep K W' H' v z from r').step (low' er')
    | true =>
      obtain ⟨c, rfl, hn, wc, oc⟩ := (show ∃ a, v = .ref a ∧ H a = Option.none ∧ W' a ∧ Own K W' H' a z from r')
      exact ⟨c, rfl, hn, oc.step ⟨fun _ _ h _ => h, fun b h => .inl (h.elim (er'.sup b) fun z => by rw [z]; exact wc), fun _ h => h, fun _ _ h => h⟩ rfl⟩
/-- a def that may raise -/
theorem fn_okX {fr : Bool} {g : FD} {b : DS} (F : FunD K x qual params body scope [] [] f fd) (S : FnScope N ps scope) (hlen : ∀ ds Q E, g ds Q E → ds.length = ps.length)
    (hd : ∀ (cdv : Value) (A : Around) (outer : List Env) (s : Shared) (H : Hp) (E : XK) (B : Bd), Room k (A.deeper (envOfC qual scope s.heap.objs.size f cdv)) → PSsD (cxOf (L2.CX P w) P w K mg base N qual scope f cdv A outer s H E) B (fun cls d _ H => E cls d H) fr body b)
    (hb : ∀ ds Q E, g ds Q E → b (fnE fr Q E) (startD N ds)) : FnOk P w K mg base (L2.CX P w) (k + 1) f fd ps (spD K fr g) := by
  refine F.ok S (fun vs H Q E ⟨W, ds, t, r, h⟩ => r.length.trans (hlen _ _ _ h)) fun cdv A outer s H vs Q E hr h => ?_
  obtain ⟨W, ds, t, r, h⟩ := h
  have Pd := hd cdv A outer s H E ⟨W, H, fun _ => False, t, fun _ h => h.elim⟩ hr
  refine ⟨_, Pd.run, W, startD N ds, er_start t r, Pd.mono (fnE _ _ _) _ _ ⟨fun δ' h' σ' H' W' s' er' => ?_, fun d δ' h' v σ' H' W' s' er' r' => ?_, fun _ h => False.elim h, fun _ h => False.elim h, fun x δ' h' cls dd σ' H' W' s' er' r' => ?_⟩ (hb _ _ _ h)⟩
  · obtain ⟨e, h'⟩ := h'
    subst e
    exact h' _ H' (fun a o ha => er'.keep a o ha id) (show Rep K W H' .non .non from .non)
  · refine h' v H' (fun a o ha => er'.keep a o ha id) ?_
    cases fr with
    | false => exact (show Rep K W' H' v d from r').step ⟨fun _ _ h _ => h, fun a h => .inl (er'.sup a h), fun _ h => h, fun _ _ h => h⟩
    | true =>
      obtain ⟨a, rfl, hn, wa, o⟩ := (show ∃ a, v = .ref a ∧ H a = Option.none ∧ W' a ∧ Own K W' H' a d from r')
      exact ⟨a, rfl, hn, o.step ⟨fun _ _ h _ => h, fun b h => .inl (h.elim (er'.sup b) fun z => by rw [z]; exact wa), fun _ h => h, fun _ _ h => h⟩ rfl⟩
  · refine h' cls dd H' (fun a o ha => er'.keep a o ha id) ⟨r'.1, ?_⟩
    have r2 := r'.2
    split at r2
    · exact r2
    · obtain ⟨p, v, e, hp, np, rv⟩ := r2
      exact ⟨p, v, e, hp, fun z => np (er'.sup p z), rv.step ⟨fun _ _ h _ => h, fun a h => .inl (er'.sup a h), fun _ h => h, fun _ _ h => h⟩⟩
end
end DL

namespace DL
open PySem PySem.Spec PyProof.Rows L2
section
variable {X : Cx} {B : Bd} {wx : WX} {fr : Bool} {pos p : Pos} {a b c e : Expr} {es : List Expr} {f f1 f2 f3 : DE} {k i : Nat} {fa : DA} {x : Str} {id : String}
/-- a name: read, or given away where it was owned -/
def dVal (i : Nat) : DE := fun δ Q _ => match δ[i]? with
  | some (.v d) => Q d δ
  | some (.own d) => Q d (δ.set i (.v d))
  | _ => False
theorem pd_val (h : PE X (.Name x pos) (tVar i)) : PD X B wx (.Name x pos) (dVal i) := by
  refine ⟨fun δ Q Q' E E' k _ h => ?_, pe_imp h fun σ H Q ⟨W, δ, er, q⟩ => ?_⟩
  · unfold dVal at h ⊢
    split at h
    · exact k _ _ h
    · exact k _ _ h
    · exact h.elim
  · unfold dVal at q
    split at q
    · rename_i d hd
      obtain ⟨v, e, r⟩ := er.val i d hd
      exact ⟨v, e, q v H W .refl er r⟩
    · rename_i d hd
      obtain ⟨a, e, er', r⟩ := er.release hd
      exact ⟨_, e, q _ H _ .sub er' r⟩
    · exact q.elim
/-- what a name's slot holds -/
def rdAt (δ : DEnv) (i : Nat) : Option D := match δ[i]? with
  | some (.v d) => some d
  | some (.own d) => some d
  | some (.lent d) => some d
  | _ => none
/-- a list's, a tuple's items to be read at v -/
inductive Sq2 (K : PySem.W.Frag) (W : AS) (H : Hp) : V → D → Prop
  | lst {a : Addr} {xs : List V} {ds : List D} : SqL K H a xs → Reps K W H xs ds → Sq2 K W H (.ref a) (.lst ds)
  | tup {a : Addr} {xs : List V} {ds : List D} : SqT K H a xs → Reps K W H xs ds → Sq2 K W H (.ref a) (.tup ds)
  | oth {v : V} {d : D} : Rep K W H v d → Sq2 K W H v d
theorem ER.rd {K : PySem.W.Frag} {W : AS} {σ : L2.St} {H : Hp} {δ : DEnv} (er : ER K B W σ H δ) {d : D} (h : rdAt δ i = some d) : ∃ v, σ[i]? = some (some v) ∧ (Rep K W H v d ∨ ∃ a, v = .ref a ∧ Own K W H a d) := by
  unfold rdAt at h
  split at h
  · rename_i hd; cases h
    obtain ⟨v, e, r⟩ := er.val i d hd
    exact ⟨v, e, .inl r⟩
  · rename_i hd; cases h
    obtain ⟨a, e, _, _, o⟩ := er.own i d hd
    exact ⟨_, e, .inr ⟨a, rfl, o⟩⟩
  · rename_i hd; cases h
    obtain ⟨a, e, _, o⟩ := er.lent i d hd
    exact ⟨_, e, .inr ⟨a, rfl, o⟩⟩
  · cases h
/-- name[e] -/
def dNIx (i : Nat) (fe : DE) : DE := fun δ Q E => (∃ d, rdAt δ i = some d) ∧ fe δ (fun j δ1 => ∃ d, rdAt δ1 i = some d ∧ gIx d j fun z => Q z δ1) E
theorem pd_nix (h : PE X (.Name x p) (tVar i)) (hb : PD X B wx b f1) (hs : PlainIx b) : PD X B wx (.Subscript (.Name x p) b pos) (dNIx i f1) := by
  refine ⟨fun δ Q Q' E E' k ke h => ⟨h.1, hb.mono _ _ _ _ _ (fun j δ1 ⟨d, h1, h2⟩ => ⟨d, h1, (od_ix (K := X.K)).mono _ _ _ _ (fun z h => k _ _ h) h2⟩) ke h.2⟩, pe_imp (pe_ix ix_seq h hb.run hs) fun σ H Q ⟨W, δ, er, ⟨d, ho⟩, q⟩ => ?_⟩
  obtain ⟨v, ev, _⟩ := er.rd ho
  refine ⟨v, ev, W, δ, er, hb.mono _ _ _ _ _ (fun j δ1 h1 => ?_) (fun _ _ z => z) q⟩
  obtain ⟨d1, h1, h2⟩ := h1
  intro v1 H1 W1 s1 er1 r1
  obtain ⟨v', ev', hv⟩ := er1.rd h1
  rw [ev] at ev'; cases ev'
  rcases hv with r | ⟨a, rfl, o⟩
  · exact (od_ix (K := X.K)).run W1 H1 v v1 d1 j Q er1.trk r r1 ((od_ix (K := X.K)).mono _ _ _ _ (fun z hz v H3 sm rz => hz v H3 W1 (s1.trans (.same sm)) (er1.grow sm) rz) h2)
  · unfold gIx at h2
    split at h2
    · obtain ⟨z, h3, q⟩ := h2
      obtain ⟨xs, hx, rs⟩ := o
      cases r1
      obtain ⟨v, e1, r1⟩ := rs.atI h3
      exact .inl ⟨_, _, _, v, rfl, rfl, SqL.of hx, e1, q v H1 W1 s1 er1 r1⟩
    · exact o.elim
    · exact o.elim
    · exact h2.elim
/-- len(name) -/
def dNLen (i : Nat) : DE := fun δ Q E => ∃ d, rdAt δ i = some d ∧ gLen [d] fun z => Q z δ
theorem pd_nlen {p2 : Pos} (hg : Gl X "len") (hm : X.mg "len" = none) (h : PE X (.Name x p) (tVar i)) (he : starEach [.Name x p] X.env = (false, eval (.Name x p) X.env) :: starEach [] X.env := by rfl) (hpl : (backTo pos (starEach [] X.env)).any (·.1) = false := by rfl) :
    PD X B wx (.Call (.Name "len" p2) [.Name x p] [] pos) (dNLen i) := by
  refine ⟨fun δ Q Q' E E' k ke ⟨d, h1, h2⟩ => ⟨d, h1, (cd_len (K := X.K)).mono _ _ _ (fun z h => k _ _ h) h2⟩, pe_imp (pe_callB call_len_seq hg hm boot_len (pa_cons h pa_nil he) (by decide) (by decide) he hpl) fun σ H Q ⟨W, δ, er, d, ho, q⟩ => ?_⟩
  obtain ⟨v, ev, hv⟩ := er.rd ho
  refine ⟨v, ev, ?_⟩
  rcases hv with r | ⟨a, rfl, o⟩
  · exact (cd_len (K := X.K)).run W H [v] [d] Q er.trk (.cons r .nil) ((cd_len (K := X.K)).mono _ _ _ (fun z hz v H3 sm rz => hz v H3 W (.same sm) (er.grow sm) rz) q)
  · unfold gLen at q
    split at q
    · rename_i hd
      cases hd
      obtain ⟨xs, hx, rs⟩ := o
      refine ⟨a, xs, rfl, .inl (SqL.of hx), ?_⟩
      rw [rs.length]; exact q _ H W .refl er (.int _)
    · rename_i hd; cases hd; exact o.elim
    · exact q.elim
/-! ### a def that is called -/
structure Callee (P : Program) (w : World) (K : PySem.W.Frag) (mg : Str → Option Value) (base : Heap) (CX : CXT) (k : Nat) (x : Str) (ps : List Str) (sp : Sp) : Prop where
  ex : ∃ f fd, mg x = some (.ref f) ∧ PySem.W.keepIn K (.ref f) = true ∧ Binds K fd ps [] ∧ FnOk P w K mg base CX k f fd ps sp
variable {ps : List Str} {g : FD} {gm : FM} {n : Nat}
theorem pd_cal (C : Callee X.prog X.w X.K X.mg X.base CX0 k x ps (spD X.K false g)) (mg : MonoF g) (hr : Room n X.A) (hn : k ≤ n) (hg : Gl X x)
    (ha : PAD X B wx (e :: es) fa) (hdb : (x == ("__debug__" : Str)) = false := by decide) (he : starEach (e :: es) X.env = (false, eval e X.env) :: starEach es X.env := by rfl) (hpl : (backTo pos (starEach es X.env)).any (·.1) = false := by rfl) :
    PD X B wx (.Call (.Name x p) (e :: es) [] pos) (dCall g fa) := by
  obtain ⟨f, fd, h1, h2, h3, F⟩ := C.ex
  exact pd_call mg F (hr.mono hn) hg h1 h2 h3 ha hdb he hpl
theorem pf_cal (C : Callee X.prog X.w X.K X.mg X.base CX0 k x ps (spD X.K true g)) (mg : MonoF g) (hr : Room n X.A) (hn : k ≤ n) (hg : Gl X x)
    (ha : PAD X B wx (e :: es) fa) (hdb : (x == ("__debug__" : Str)) = false := by decide) (he : starEach (e :: es) X.env = (false, eval e X.env) :: starEach es X.env := by rfl) (hpl : (backTo pos (starEach es X.env)).any (·.1) = false := by rfl) :
    PF X B wx (.Call (.Name x p) (e :: es) [] pos) (dCall g fa) := by
  obtain ⟨f, fd, h1, h2, h3, F⟩ := C.ex
  exact pf_call mg F (hr.mono hn) hg h1 h2 h3 ha hdb he hpl
theorem pd_calX (tk : Takes X wx) (C : Callee X.prog X.w X.K X.mg X.base (L2.CX X.prog X.w) k x ps (spD X.K false g)) (mg : MonoF g) (hr : Room n X.A) (hn : k ≤ n) (hg : Gl X x)
    (ha : PAD X B wx (e :: es) fa) (hdb : (x == ("__debug__" : Str)) = false := by decide) (he : starEach (e :: es) X.env = (false, eval e X.env) :: starEach es X.env := by rfl) (hpl : (backTo pos (starEach es X.env)).any (·.1) = false := by rfl) :
    PD X B wx (.Call (.Name x p) (e :: es) [] pos) (dCall g fa) := by
  obtain ⟨f, fd, h1, h2, h3, F⟩ := C.ex
  exact pd_callX tk mg F (hr.mono hn) hg h1 h2 h3 ha hdb he hpl
theorem pd_calM {y : Str} {p2 : Pos} (C : Callee X.prog X.w X.K X.mg X.base CX0 k y ps (spM X.K false gm)) (mg : MonoM gm) (hr : Room n X.A) (hn : k ≤ n) (hg : Gl X y)
    (h : PE X (.Name x p) (tVar i)) (ha : PAD X B wx es fa) (hdb : (y == ("__debug__" : Str)) = false := by decide) (he : starEach (.Name x p :: es) X.env = (false, eval (.Name x p) X.env) :: starEach es X.env := by rfl) (hpl : (backTo pos (starEach es X.env)).any (·.1) = false := by rfl) :
    PD X B wx (.Call (.Name y p2) (.Name x p :: es) [] pos) (dCallM i gm fa) := by
  obtain ⟨f, fd, h1, h2, h3, F⟩ := C.ex
  exact pd_callM mg F (hr.mono hn) hg h1 h2 h3 h ha hdb he hpl
end
section
variable {P : Program} {w : World} {K : PySem.W.Frag} {mg : Str → Option Value} {base : Heap} {x qual : Str} {params : Arguments} {body : List Stmt} {scope : Scope} {f : Addr} {fd : FuncData} {N ps : List Str} {k : Nat}
theorem cal_mk {CX : CXT} {sp : Sp} (F : FunD K x qual params body scope [] [] f fd) (gl : mg x = some (.ref f)) (b : Binds K fd ps []) (h : FnOk P w K mg base CX k f fd ps sp) : Callee P w K mg base CX k x ps sp := ⟨f, fd, gl, F.kp, b, h⟩
end
/-! ### the words of the data readings, for simp -/
theorem eqd_int (i j : Int) : eqd (.int i) (.int j) = decide (i = j) := by
  simp only [eqd, toP, PyData.eqv]
  exact Bool.beq_eq_decide_eq i j
theorem shp_int (i : Int) : shp (.int i) = true := rfl
theorem shp_bl (i : Bool) : shp (.bl i) = true := rfl
theorem shp_non : shp .non = true := rfl
theorem eqd_bl (i j : Bool) : eqd (.bl i) (.bl j) = (i == j) := by simp only [eqd, toP, PyData.eqv]
end DL

namespace DL
open PySem PySem.Spec PyProof.Rows L2
section
variable {X : Cx} {B : Bd} {wx : WX} {fr : Bool} {pos p : Pos} {a b c e : Expr} {es : List Expr} {f f0 f1 f2 f3 : DE} {k i n : Nat} {fa : DA} {x : Str} {id : String} {ps : List Str} {gm : FM}
/-! ### a def that changes its first argument, called with a fresh thing -/
def dCallMF (f0 : DE) (g : FM) (fa : DA) : DE := fun δ Q E => f0 δ (fun d δ1 => fa δ1 (fun ds δ2 => g d ds fun z _ => Q z δ2) E) E
theorem pd_calMF {y : Str} {p2 : Pos} (C : Callee X.prog X.w X.K X.mg X.base CX0 k y ps (spM X.K false gm)) (mg : MonoM gm) (hr : Room n X.A) (hn : k ≤ n) (hg : Gl X y)
    (h : PF X B wx e f0) (ha : ∀ B, PAD X B wx es fa) (hdb : (y == ("__debug__" : Str)) = false := by decide) (he : starEach (e :: es) X.env = (false, eval e X.env) :: starEach es X.env := by rfl) (hpl : (backTo pos (starEach es X.env)).any (·.1) = false := by rfl) :
    PD X B wx (.Call (.Name y p2) (e :: es) [] pos) (dCallMF f0 gm fa) := by
  obtain ⟨fn, fd, h1, h2, h3, F⟩ := C.ex
  have ma := (ha Bd.nil).mono
  refine ⟨fun δ Q Q' E E' k ke h' => h.mono _ _ _ _ _ (fun d δ1 h => ma _ _ _ _ _ (fun ds δ2 h => mg _ _ _ _ (fun z d' h => k _ _ h) h) ke h) ke h',
    pe_imp (pe_callS F (hr.mono hn) hg h1 h2 h3 (E := fun _ _ _ _ => False) pass00 (pa_cons h.run ⟨fun pos pins s σ H Q I (⟨B', q⟩ : ∃ B', liftA X.K B' wx fa σ H Q) => (ha B').run.run pos pins s σ H Q I q⟩ he) hdb he hpl) fun σ H Q ⟨W, δ, er, q⟩ => ?_⟩
  refine ⟨W, δ, er, h.mono _ _ _ _ _ (fun d δ1 hd ad H1 W1 s1 er1 hn wa o ns => ?_) (fun _ _ z => z) q⟩
  obtain ⟨ob, hob⟩ := o.some
  have h0 : B.H0 ad = Option.none := er.h0 hn
  refine ⟨B.plus ad ob, W1, δ1, er1.plus ns wa hob, ma _ _ _ _ _ (fun ds δ2 h2 v2 H2 W2 s2 er2 r2 => ?_) (fun x δ2 hx c dd H2 W2 s2 er2 r2 => ?_) hd⟩
  · obtain ⟨er3, ns3, w3, hob3⟩ := er2.minus h0
    refine ⟨W2, ad, d, v2, ds, er3.trk, rfl, w3, o.step s2 (hob3.trans hob.symm), r2, mg _ _ _ _ (fun z d' hz v H3 kk o3 rz => ?_) h2⟩
    obtain ⟨ob4, hob4⟩ := o3.some
    -- behind the call: the thing at ad is written, no slot holds it
    have st : Step W2 H2 W2 H3 := ⟨fun b u hb n => kk b u hb fun z => by subst z; exact n w3, fun _ z => .inl z, fun b z => (by
      cases q : H2 b with
      | none => rfl
      | some u =>
        by_cases e : b = ad
        · subst e; rw [hob4] at z; cases z
        · rw [kk b u q e] at z; cases z),
      fun b xs hb => kk b _ hb fun z => by subst z; exact (o.step s2 (hob3.trans hob.symm)).notTup xs hb⟩
    have er4 : ER X.K B W2 σ H3 δ2 := by
      refine ⟨er3.len, fun b u hb m => kk b u (er3.keep b u hb m) (fun z => by rw [z, h0] at hb; cases hb), er3.sup, fun b hb => ?_, fun j e hj => ?_, fun j e hj => ?_, fun j e hj => ?_, er3.dst⟩
      · obtain ⟨u, q⟩ := er3.trk b hb
        by_cases e : b = ad
        · rw [e]; exact ⟨_, hob4⟩
        · exact ⟨u, kk b u q e⟩
      · obtain ⟨v, q, r⟩ := er3.val j e hj; exact ⟨v, q, r.step st⟩
      · obtain ⟨b, q, w2, n2, o2⟩ := er3.own j e hj
        obtain ⟨u, hu⟩ := o2.some
        exact ⟨b, q, w2, n2, o2.step st ((kk b u hu fun z => ns3 j e (.inl hj) (z ▸ q)).trans hu.symm)⟩
      · obtain ⟨b, q, w2, o2⟩ := er3.lent j e hj
        obtain ⟨u, hu⟩ := o2.some
        exact ⟨b, q, w2, o2.step st ((kk b u hu fun z => ns3 j e (.inr hj) (z ▸ q)).trans hu.symm)⟩
    exact hz v H3 W2 ((s1.trans s2).trans st) er4 rz
  · obtain ⟨er3, _⟩ := er2.minus h0
    exact hx c dd H2 W2 (s1.trans s2) er3 r2
/-! ### lists: +, slices, reversed -/
theorem Fst.new {K : PySem.W.Frag} {σ : L2.St} {W W1 : AS} {H H1 : Hp} {Q : VK} {ds : List D} {δ' : DEnv} {xs : List V} {p : Addr} (h : Fst K B σ W H Q (.lst ds) δ') (s : Step W H W1 H1) (er : ER K B W1 σ H1 δ') (rs : Reps K W1 H1 xs ds) (hp : H1 p = none) : Q (.ref p) (upd H1 p (.lst xs)) := by
  have sm : Same H1 (upd H1 p (.lst xs)) := same_new hp
  obtain ⟨er3, ns⟩ := er.alloc sm hp ⟨_, upd_same⟩
  exact h p _ _ (s.trans (.alloc sm hp)) er3 (s.live p hp) (.inr rfl) ⟨_, upd_same, rs.step (.alloc sm hp)⟩ ns
def rCatS (K : PySem.W.Frag) : R2 := fun x y H Q => ∃ l b xs zs, x = .ref l ∧ y = .ref b ∧ SqL K H l xs ∧ SqL K H b zs ∧ xs.length + zs.length ≤ sizeLine ∧ ∀ p, H p = none → Q (.ref p) (upd H p (.lst (xs ++ zs)))
theorem op_catS : OpR X (binaryOp .Add) (rCatS X.K) := by
  intro pins s σ H x y v u Q I rx ry h
  obtain ⟨l, b, xs, zs, rfl, rfl, hH, hB, hz, q⟩ := h
  cases rx
  cases ry
  obtain ⟨its, r, ⟨⟨c1, d1, da1, sl1⟩, n1, e1, hc1, hd1, hs1⟩, _⟩ := I.list hH
  obtain ⟨its2, r2, ⟨⟨c2, d2, da2, sl2⟩, n2, e2, hc2, hd2, hs2⟩, _⟩ := I.list hB
  have l1 := r.length
  have l2 := r2.length
  simp only at hc1 hs1 hc2 hs2
  subst hc1 hs1 hc2 hs2
  refine concat_meets ⟨_, e1, rfl⟩ ⟨_, e2, rfl⟩ noFill_list_add seq_list_add PySem.F.slot_list_add PySem.F.entry_list_add (PySem.F.args_list_add_2 _ _) (list_addW l b its.toArray its2.toArray n1 n2 d1 d2 sl1 sl2 (by simp only [List.size_toArray]; omega)) ⟨e1, e2, ?_⟩
  have ea : its.toArray ++ its2.toArray = (its ++ its2).toArray := by simp
  rw [ea]
  exact ⟨.ref _, _, I.lnew (t' := s.toks) (r.append r2) (by rw [List.length_append]; omega), rfl, q _ I.fresh⟩
def dCat (f1 f2 : DE) : DE := fun δ Q E => f1 δ (fun x δ1 => f2 δ1 (fun y δ2 => ∃ xs ys, x = .lst xs ∧ y = .lst ys ∧ xs.length + ys.length ≤ sizeLine ∧ Q (.lst (xs ++ ys)) δ2) E) E
theorem pf_cat (ha : PD X B wx a f1) (hb : PD X B wx b f2) : PF X B wx (.BinOp a .Add b pos) (dCat f1 f2) := by
  refine ⟨fun δ Q Q' E E' k ke h => ha.mono _ _ _ _ _ (fun x δ1 h => hb.mono _ _ _ _ _ (fun y δ2 ⟨xs, ys, e1, e2, l, h⟩ => ⟨xs, ys, e1, e2, l, k _ _ h⟩) ke h) ke h, pe_imp (pe_op op_catS ha.run hb.run) fun σ H Q ⟨W, δ, er, q⟩ => ?_⟩
  refine ⟨W, δ, er, ha.mono _ _ _ _ _ (fun x δ1 h1 v1 H1 W1 s1 er1 r1 => ?_) (fun _ _ z => z) q⟩
  refine ⟨W1, δ1, er1, hb.mono _ _ _ _ _ (fun y δ2 h2 v2 H2 W2 s2 er2 r2 => ?_) (fun _ _ z => z.step s1) h1⟩
  obtain ⟨xs, ys, rfl, rfl, l, h2⟩ := h2
  have r1' := r1.step s2
  cases r1' with
  | lst l1 rs1 =>
    cases r2 with
    | lst l2 rs2 =>
      refine ⟨_, _, _, _, rfl, rfl, l1.sq, l2.sq, by rw [rs1.length, rs2.length]; exact l, fun p hp => h2.new (s1.trans s2) er2 (rs1.append rs2) hp⟩
/-- a part of a slice -/
abbrev DO := DEnv → (Option Int → DEnv → Prop) → XC → Prop
def oN : DO := fun δ Q _ => Q none δ
def oS (f : DE) : DO := fun δ Q E => f δ (fun d δ1 => ∃ i, d = .int i ∧ Q (some i) δ1) E
structure POD (X : Cx) (B : Bd) (wx : WX) (e : Option Expr) (f : DO) : Prop where
  mono : Mono f
  run : PO X e (fun σ H Q => ∃ W δ, ER X.K B W σ H δ ∧ f δ (Pst X.K B (fun _ _ a b => a = b) σ W H Q) (Xst X.K B wx σ W H))
theorem po_imp {e : Option Expr} {t t' : TO} (h : PO X e t) (w : ∀ σ H Q, t' σ H Q → t σ H Q) : PO X e t' := ⟨fun pins s σ H Q I q => h.run pins s σ H Q I (w σ H Q q)⟩
theorem pod_none : POD X B wx none oN := ⟨fun _ _ _ _ _ k _ h => k _ _ h, po_imp po_none fun σ H Q ⟨W, δ, er, q⟩ => q none H W .refl er rfl⟩
theorem pod_some (h : PD X B wx e f) : POD X B wx (some e) (oS f) := by
  refine ⟨fun δ Q Q' E E' k ke h' => h.mono _ _ _ _ _ (fun d δ1 ⟨i, e, h⟩ => ⟨i, e, k _ _ h⟩) ke h', po_imp (po_some h.run) fun σ H Q ⟨W, δ, er, q⟩ => ?_⟩
  refine ⟨W, δ, er, h.mono _ _ _ _ _ (fun d δ1 h1 v1 H1 W1 s1 er1 r1 => ?_) (fun _ _ z => z) q⟩
  obtain ⟨i, rfl, h1⟩ := h1
  cases r1
  exact ⟨i, rfl, h1 _ _ _ s1 er1 rfl⟩
/-- xs[lo:hi] of data -/
def cutD (xs : List D) (lo hi : Option Int) : List D := (xs.drop (HT.sIx xs.length 0 lo)).take (HT.sIx xs.length xs.length hi - HT.sIx xs.length 0 lo)
def dSlL (f : DE) (lo hi : DO) : DE := fun δ Q E => f δ (fun d δ1 => lo δ1 (fun l δ2 => hi δ2 (fun h δ3 => ∃ xs, d = .lst xs ∧ Q (.lst (cutD xs l h)) δ3) E) E) E
theorem pf_sl {lo hi : Option Expr} {p2 : Pos} {fl fh : DO} (ha : PD X B wx a f1) (hl : POD X B wx lo fl) (hh : POD X B wx hi fh) : PF X B wx (.Subscript a (.Slice lo hi none p2) pos) (dSlL f1 fl fh) := by
  refine ⟨fun δ Q Q' E E' k ke h => ha.mono _ _ _ _ _ (fun x δ1 h => hl.mono _ _ _ _ _ (fun l δ2 h => hh.mono _ _ _ _ _ (fun h3 δ3 ⟨xs, e, h⟩ => ⟨xs, e, k _ _ h⟩) ke h) ke h) ke h, pe_imp (pe_slice sl_list ha.run hl.run hh.run) fun σ H Q ⟨W, δ, er, q⟩ => ?_⟩
  refine ⟨W, δ, er, ha.mono _ _ _ _ _ (fun x δ1 h1 v1 H1 W1 s1 er1 r1 => ?_) (fun _ _ z => z) q⟩
  refine ⟨W1, δ1, er1, hl.mono _ _ _ _ _ (fun l δ2 h2 v2 H2 W2 s2 er2 r2 => ?_) (fun _ _ z => z.step s1) h1⟩
  subst r2
  refine ⟨W2, δ2, er2, hh.mono _ _ _ _ _ (fun h3 δ3 h3' v3 H3 W3 s3 er3 r3 => ?_) (fun _ _ z => z.step (s1.trans s2)) h2⟩
  subst r3
  obtain ⟨xs, rfl, h3'⟩ := h3'
  have r1' := r1.step (s2.trans s3)
  cases r1' with
  | lst l1 rs1 =>
    refine ⟨_, _, rfl, l1.sq, fun p hp => h3'.new ((s1.trans s2).trans s3) er3 ?_ hp⟩
    unfold cutV cutD
    rw [rs1.length]
    exact (rs1.drop _).take _
/-- xs[::-1] -/
def dRev (f : DE) : DE := fun δ Q E => f δ (fun d δ1 => ∃ xs, d = .lst xs ∧ Q (.lst xs.reverse) δ1) E
theorem pf_rev {kk : Nat} {p1 p2 p3 : Pos} (ha : PD X B wx a f1) : PF X B wx (.Subscript a (.Slice none none (some (.UnaryOp .USub (.Constant (.int 1) kk p1) p2)) p3) pos) (dRev f1) := by
  refine ⟨fun δ Q Q' E E' k ke h => ha.mono _ _ _ _ _ (fun x δ1 ⟨xs, e, h⟩ => ⟨xs, e, k _ _ h⟩) ke h, pe_imp (pe_revL ha.run) fun σ H Q ⟨W, δ, er, q⟩ => ?_⟩
  refine ⟨W, δ, er, ha.mono _ _ _ _ _ (fun x δ1 h1 v1 H1 W1 s1 er1 r1 => ?_) (fun _ _ z => z) q⟩
  obtain ⟨xs, rfl, h1⟩ := h1
  cases r1 with
  | lst l1 rs1 =>
    exact ⟨_, _, rfl, l1.sq, fun p hp => h1.new s1 er1 rs1.reverse hp⟩
/-! ### a < b < c -/
def dChain (g g' : G2) (f1 f2 f3 : DE) : DE := fun δ Q E => f1 δ (fun x δ1 => f2 δ1 (fun y δ2 => g x y fun z => match z with
  | .bl k => if k = true then f3 δ2 (fun w δ3 => g' y w fun z => Q z δ3) E else Q (.bl false) δ2
  | _ => False) E) E
theorem mono_chain {g g' : G2} (m1 : Mono f1) (m2 : Mono f2) (m3 : Mono f3) (mg : ∀ d e (Q Q' : D → Prop), (∀ z, Q z → Q' z) → g d e Q → g d e Q') (mg' : ∀ d e (Q Q' : D → Prop), (∀ z, Q z → Q' z) → g' d e Q → g' d e Q') : Mono (dChain g g' f1 f2 f3) := fun δ Q Q' E E' k ke h =>
  m1 _ _ _ _ _ (fun x δ1 h => m2 _ _ _ _ _ (fun y δ2 h => mg _ _ _ _ (fun z h => by
    split at h
    · rename_i kk
      cases kk with
      | true => exact m3 _ _ _ _ _ (fun w δ3 h => mg' _ _ _ _ (fun z h => k _ _ h) h) ke h
      | false => exact k _ _ h
    · exact h.elim) h) ke h) ke h
theorem chain_run {K : PySem.W.Frag} {g g' : G2} {r r' : R2} (hd : OpD K r g) (hd' : OpD K r' g') (m1 : Mono f1) (m2 : Mono f2) (m3 : Mono f3) (σ : L2.St) (H : Hp) (Q : VK) (h : liftE K B wx (dChain g g' f1 f2 f3) σ H Q) :
    tChain r r' (liftE K B wx f1) (liftE K B wx f2) (liftE K B wx f3) σ H Q := by
  obtain ⟨W, δ, er, q⟩ := h
  refine ⟨W, δ, er, m1 _ _ _ _ _ (fun x δ1 h1 v1 H1 W1 s1 er1 r1 => ?_) (fun _ _ z => z) q⟩
  refine ⟨W1, δ1, er1, m2 _ _ _ _ _ (fun y δ2 h2 v2 H2 W2 s2 er2 r2 => ?_) (fun x δ' z => z.step s1) h1⟩
  refine hd.run W2 H2 v1 v2 x y _ er2.trk (r1.step s2) r2 (hd.mono _ _ _ _ (fun z hz v3 H3 sm rz => ?_) h2)
  split at hz
  · rename_i kk
    cases rz
    refine ⟨kk, rfl, ?_⟩
    have s3 := (s1.trans s2).trans (.same sm)
    cases kk with
    | true =>
      refine ⟨W2, δ2, er2.grow sm, m3 _ _ _ _ _ (fun w δ3 h3 v4 H4 W4 s4 er4 r4 => ?_) (fun x δ' z => z.step s3) hz⟩
      exact hd'.run W4 H4 v2 v4 y w Q er4.trk ((r2.step (.same sm)).step s4) r4 (hd'.mono _ _ _ _ (fun z hz v5 H5 sm5 rz => hz v5 H5 W4 ((s3.trans s4).trans (.same sm5)) (er4.grow sm5) rz) h3)
    | false => exact hz _ _ _ s3 (er2.grow sm) (.bl _)
  · exact hz.elim
abbrev gLt : G2 := gI0 fun i j => .bl (decide (i < j))
abbrev gLe : G2 := gI0 fun i j => .bl (decide (i ≤ j))
abbrev dChLtLt := dChain gLt gLt
abbrev dChLeLe := dChain gLe gLe
theorem pd_chltlt (ha : PD X B wx a f1) (hb : PD X B wx b f2) (hc : PD X B wx c f3) (hm : lastMarks [.Lt, .Lt] [b, c] = false := by with_unfolding_all rfl) : PD X B wx (.Compare a [.Lt, .Lt] [b, c] pos) (dChLtLt f1 f2 f3) :=
  ⟨mono_chain ha.mono hb.mono hc.mono (od_I0 (K := X.K) fun _ _ _ _ => .bl _).mono (od_I0 (K := X.K) fun _ _ _ _ => .bl _).mono, pe_imp (pe_chain op_lt op_lt ha.run hb.run hc.run hm) (chain_run (od_I0 fun _ _ _ _ => .bl _) (od_I0 fun _ _ _ _ => .bl _) ha.mono hb.mono hc.mono)⟩
theorem pd_chlele (ha : PD X B wx a f1) (hb : PD X B wx b f2) (hc : PD X B wx c f3) (hm : lastMarks [.LtE, .LtE] [b, c] = false := by with_unfolding_all rfl) : PD X B wx (.Compare a [.LtE, .LtE] [b, c] pos) (dChLeLe f1 f2 f3) :=
  ⟨mono_chain ha.mono hb.mono hc.mono (od_I0 (K := X.K) fun _ _ _ _ => .bl _).mono (od_I0 (K := X.K) fun _ _ _ _ => .bl _).mono, pe_imp (pe_chain op_le op_le ha.run hb.run hc.run hm) (chain_run (od_I0 fun _ _ _ _ => .bl _) (od_I0 fun _ _ _ _ => .bl _) ha.mono hb.mono hc.mono)⟩
theorem pt_chltlt (ha : PD X B wx a f1) (hb : PD X B wx b f2) (hc : PD X B wx c f3) (hm : lastMarks [.Lt, .Lt] [b, c] = false := by with_unfolding_all rfl) : PTD X B wx (.Compare a [.Lt, .Lt] [b, c] pos) (dTest (dChLtLt f1 f2 f3)) :=
  have m := mono_chain ha.mono hb.mono hc.mono (od_I0 (K := X.K) (h := fun i j => .bl (decide (i < j))) fun _ _ _ _ => .bl _).mono (od_I0 (K := X.K) (h := fun i j => .bl (decide (i < j))) fun _ _ _ _ => .bl _).mono
  ⟨mono_test m, pt_imp (pt_chain op_lt op_lt ha.run hb.run hc.run hm) fun σ H Q h => chain_run (od_I0 fun _ _ _ _ => .bl _) (od_I0 fun _ _ _ _ => .bl _) ha.mono hb.mono hc.mono σ H _ (test_run m σ H Q h)⟩
theorem pt_chlele (ha : PD X B wx a f1) (hb : PD X B wx b f2) (hc : PD X B wx c f3) (hm : lastMarks [.LtE, .LtE] [b, c] = false := by with_unfolding_all rfl) : PTD X B wx (.Compare a [.LtE, .LtE] [b, c] pos) (dTest (dChLeLe f1 f2 f3)) :=
  have m := mono_chain ha.mono hb.mono hc.mono (od_I0 (K := X.K) (h := fun i j => .bl (decide (i ≤ j))) fun _ _ _ _ => .bl _).mono (od_I0 (K := X.K) (h := fun i j => .bl (decide (i ≤ j))) fun _ _ _ _ => .bl _).mono
  ⟨mono_test m, pt_imp (pt_chain op_le op_le ha.run hb.run hc.run hm) fun σ H Q h => chain_run (od_I0 fun _ _ _ _ => .bl _) (od_I0 fun _ _ _ _ => .bl _) ha.mono hb.mono hc.mono σ H _ (test_run m σ H Q h)⟩
/-! ### a, b, c = x, y, z -/
def dPar3 (i j l : Nat) (fa : DA) : DS := fun E δ => fa δ (fun ds δ1 => ∃ d e h, ds = [d, e, h] ∧ E.nx (((δ1.set i (.v d)).set j (.v e)).set l (.v h))) E.xx
theorem psd_par3 {j l : Nat} {y z : Str} {px py pz pt : Pos} {kt k2 pt2} (hc : X.calm = true) (hN : X.N.Nodup) (hi : X.N[i]? = some x) (hj : X.N[j]? = some y) (hl : X.N[l]? = some z) (hij : i ≠ j) (hil : i ≠ l) (hjl : j ≠ l)
    (hx : X.env.scope.names.lookup x = some .local) (hy : X.env.scope.names.lookup y = some .local) (hz : X.env.scope.names.lookup z = some .local) (ha : PAD X B wx [a, b, c] fa)
    (hw : swappedStores [.Tuple [.Name x px, .Name y py, .Name z pz] kt pt] (.Tuple [a, b, c] k2 pt2) X.env = pure (some [x, y, z]))
    (hs : swapsWithSole [.Tuple [.Name x px, .Name y py, .Name z pz] kt pt] (.Tuple [a, b, c] k2 pt2) pos.line X.env = pure false := by rfl) :
    PSD X B wx fr (.Assign [.Tuple [.Name x px, .Name y py, .Name z pz] kt pt] (.Tuple [a, b, c] k2 pt2) pos) (dPar3 i j l fa) := by
  refine ⟨fun E E' δ le h => ha.mono _ _ _ _ _ (fun d δ1 ⟨u, v, w, e, h⟩ => ⟨u, v, w, e, le.nx _ h⟩) le.xx h, ps_imp (ps_par3 hc hN hi hj hl hij hil hjl hx hy hz ha.run hw hs) fun D σ H ⟨W, δ, er, q⟩ => ?_⟩
  refine ⟨W, δ, er, ha.mono _ _ _ _ _ (fun d δ1 h1 v H1 W1 s1 er1 r1 => ?_) (fun x δ1 h1 c dd H1 W1 s1 er1 r1 => h1 c dd σ H1 W1 s1 er1 r1) q⟩
  obtain ⟨u, z, w, rfl, h1⟩ := h1
  cases r1 with
  | cons r1 rr =>
    cases rr with
    | cons r2 rr =>
      cases rr with
      | cons r3 rr =>
        cases rr
        exact ⟨_, _, _, rfl, h1 _ _ _ s1 (((er1.set r1).set r2).set r3)⟩
end
end DL

namespace DL
open PySem PySem.Spec PyProof.Rows L2
/-- the law's entry -/
theorem law_start {K : PySem.W.Frag} {g : FD} {H : Hp} {a : Addr} {ns : List Int} (hS : SqL K H a (ns.map V.int)) (hq : ∀ Q E, Q (.bl true) → g [.lst (ns.map D.int)] Q E) : spD K false g [.ref a] H (fun v _ => v = .bl true) fun _ _ _ => False := by
  refine ⟨fun _ => False, [.lst (ns.map D.int)], fun _ h => h.elim, .cons (.lst ?_ (.ofInts ns)) .nil, hq _ _ fun v H' _ r => ?_⟩
  · rcases hS with h | h
    · exact .inl ⟨h, fun z => z⟩
    · exact .inr (.inr h)
  · exact Rep.bl' r
/-! ### sizes of ints -/
def Zb (n : Nat) (x : Int) : Prop := x.natAbs < 2 ^ n
instance (n : Nat) (x : Int) : Decidable (Zb n x) := inferInstanceAs (Decidable (_ < _))
theorem Zb.mono {n m : Nat} {x : Int} (h : Zb n x) (l : n ≤ m) : Zb m x := Nat.lt_of_lt_of_le h (Nat.pow_le_pow_right (by decide) l)
theorem Zb.mul {n m : Nat} {x y : Int} (h : Zb n x) (l : Zb m y) : Zb (n + m) (x * y) := wide_lt h l
theorem Zb.add {n m : Nat} {x y : Int} (h : Zb n x) (l : Zb m y) : Zb (n + m + 1) (x + y) := by
  have h1 : x.natAbs < 2 ^ (n + m) := Zb.mono h (Nat.le_add_right _ _)
  have h2 : y.natAbs < 2 ^ (n + m) := Zb.mono l (Nat.le_add_left _ _)
  show (x + y).natAbs < 2 ^ (n + m + 1)
  rw [Nat.pow_succ]
  omega
theorem Zb.neg {n : Nat} {x : Int} (h : Zb n x) : Zb n (-x) := by
  show (-x).natAbs < 2 ^ n
  rw [Int.natAbs_neg]; exact h
theorem Zb.sub {n m : Nat} {x y : Int} (h : Zb n x) (l : Zb m y) : Zb (n + m + 1) (x - y) := by
  rw [Int.sub_eq_add_neg]; exact h.add l.neg
theorem Zb.le {n : Nat} {x y : Int} (h : Zb n y) (l : x.natAbs ≤ y.natAbs) : Zb n x := Nat.lt_of_le_of_lt l h
theorem cmul {n m : Nat} {x y : Int} (h : Zb n x) (l : Zb m y) (s : n + m ≤ 999000) : CMulW x y := by
  have h' : Zb (n + 1) x := h.mono (by omega)
  have l' : Zb (m + 1) y := l.mono (by omega)
  exact wide_mul h' l' (by omega) (by omega) (by omega)
theorem cdiv {n : Nat} {x y : Int} (h0 : y ≠ 0) (h : Zb n y) (s : n ≤ 9000) : CDivG x y := by
  refine ⟨h0, .inl ?_⟩
  have : y.natAbs.log2 < n := (Nat.log2_lt (by omega)).mpr h
  omega
theorem cdivW {n : Nat} {x y : Int} (h0 : y ≠ 0) (h : Zb n x) (s : n ≤ 13490) : CDivG x y := by
  refine ⟨h0, .inr ?_⟩
  by_cases z : x.natAbs = 0
  · rw [z]; decide
  · have : x.natAbs.log2 < n := (Nat.log2_lt z).mpr h
    omega
/-! ### items of short lists -/
theorem at2_0 {α : Type} {a b : α} : atI [a, b] 0 = some a := rfl
theorem at2_1 {α : Type} {a b : α} : atI [a, b] 1 = some b := rfl
theorem at3_0 {α : Type} {a b c : α} : atI [a, b, c] 0 = some a := rfl
theorem at3_1 {α : Type} {a b c : α} : atI [a, b, c] 1 = some b := rfl
theorem at3_2 {α : Type} {a b c : α} : atI [a, b, c] 2 = some c := rfl
theorem at4_0 {α : Type} {a b c d : α} : atI [a, b, c, d] 0 = some a := rfl
theorem at4_1 {α : Type} {a b c d : α} : atI [a, b, c, d] 1 = some b := rfl
theorem at4_2 {α : Type} {a b c d : α} : atI [a, b, c, d] 2 = some c := rfl
theorem at4_3 {α : Type} {a b c d : α} : atI [a, b, c, d] 3 = some d := rfl
theorem ix3_0 : ixN 3 0 = some 0 := rfl
theorem ix3_1 : ixN 3 1 = some 1 := rfl
theorem ix3_2 : ixN 3 2 = some 2 := rfl
theorem ix2_0 : ixN 2 0 = some 0 := rfl
theorem ix2_1 : ixN 2 1 = some 1 := rfl
/-! ### loops by an invariant -/
theorem forD_inv {tg : DG} {body : DS} {E : DEnds} (I : Nat → DEnv → Prop) : ∀ (ds : List D) (n : Nat) (δ : DEnv), I n δ →
    (∀ (i : Nat) (d : D) (δ : DEnv), ds[i]? = some d → I (n + i) δ → ∀ R : DEnv → Prop, (∀ δ2, I (n + i + 1) δ2 → R δ2) → tg d δ fun δ1 => body (loopE E R) δ1) → (∀ δ, I (n + ds.length) δ → E.nx δ) → forD tg body E ds δ
  | [], n, δ, h, _, hd => hd δ h
  | d :: ds, n, δ, h, hs, hd => hs 0 d δ rfl h (forD tg body E ds) fun δ2 h2 => by
    refine forD_inv I ds (n + 1) δ2 h2 (fun i d' δ' hd' hi R hR => ?_) (fun δ' hi => ?_)
    · refine hs (i + 1) d' δ' (by simpa using hd') (by rw [show n + (i + 1) = n + 1 + i by omega]; exact hi) R fun δ3 h3 => hR δ3 ?_
      rw [show n + 1 + i + 1 = n + (i + 1) + 1 by omega]; exact h3
    · exact hd δ' (by rw [List.length_cons, show n + (ds.length + 1) = n + 1 + ds.length by omega]; exact hi)
/-- every turn brings the word again -/
theorem forD_all {tg : DG} {body : DS} {E : DEnds} (I : DEnv → Prop) {ds : List D} {δ : DEnv} (h : I δ) (hs : ∀ d δ, d ∈ ds → I δ → ∀ R : DEnv → Prop, (∀ δ2, I δ2 → R δ2) → tg d δ fun δ1 => body (loopE E R) δ1) (hd : ∀ δ, I δ → E.nx δ) : forD tg body E ds δ :=
  forD_inv (fun _ => I) ds 0 δ h (fun i d δ e h R hR => hs d δ (List.mem_of_getElem? e) h R hR) (fun δ h => hd δ h)
theorem mem_rng {lo : Int} {n : Nat} {d : D} (h : d ∈ rngD lo n) : ∃ i : Nat, i < n ∧ d = .int (lo + i) := by
  unfold rngD at h
  rw [List.mem_map] at h
  obtain ⟨i, hi, e⟩ := h
  exact ⟨i, List.mem_range.mp hi, e.symm⟩
theorem rng_0 (lo : Int) : rngD lo 0 = [] := rfl
theorem rng_s (lo : Int) (n : Nat) : rngD lo (n + 1) = .int lo :: rngD (lo + 1) n := by
  unfold rngD
  rw [List.range_succ_eq_map, List.map_cons, List.map_map]
  congr 1
  · simp
  · apply List.map_congr_left
    intro i _
    simp only [Function.comp, D.int.injEq]
    omega
theorem mono_tn {i : Nat} : MonoT (tgName i) := fun d δ Q Q' k h => k _ h
end DL

namespace DL
open PySem PySem.Spec PyProof.Rows L2
def eqds (xs ys : List D) : Bool := PyData.eqvAll (toPs xs) (toPs ys)
theorem eqd_lst {xs ys : List D} : eqd (.lst xs) (.lst ys) = eqds xs ys := by simp only [eqd, toP, PyData.eqv, eqds]
theorem eqd_tup {xs ys : List D} : eqd (.tup xs) (.tup ys) = eqds xs ys := by simp only [eqd, toP, PyData.eqv, eqds]
theorem eqds_nil : eqds [] [] = true := by simp only [eqds, toPs, PyData.eqvAll]
theorem eqds_cons {x y : D} {xs ys : List D} : eqds (x :: xs) (y :: ys) = (eqd x y && eqds xs ys) := by simp only [eqd, eqds, toPs, PyData.eqvAll]
theorem eqds_cn {x : D} {xs : List D} : eqds (x :: xs) [] = false := by simp only [eqds, toPs, PyData.eqvAll]
theorem eqds_nc {x : D} {xs : List D} : eqds [] (x :: xs) = false := by simp only [eqds, toPs, PyData.eqvAll]
theorem eqd_nn : eqd .non .non = true := by simp only [eqd, toP, PyData.eqv]
theorem eqd_nt {xs : List D} : eqd .non (.tup xs) = false := by simp only [eqd, toP, PyData.eqv]
theorem eqd_tn {xs : List D} : eqd (.tup xs) .non = false := by simp only [eqd, toP, PyData.eqv]
theorem eqd_str {x y : Str} : eqd (.str x) (.str y) = (x == y) := by simp only [eqd, toP, PyData.eqv]
mutual
theorem eqv_self : ∀ d : D, (toP d).canLay0 = true → PyData.eqv (toP d) (toP d) = true
  | .non, _ => by simp only [toP, PyData.eqv]
  | .bl b, _ => by simp only [toP, PyData.eqv, beq_self_eq_true]
  | .int b, _ => by simp only [toP, PyData.eqv, beq_self_eq_true]
  | .str b, _ => by simp only [toP, PyData.eqv, beq_self_eq_true]
  | .lst ds, h => by simp only [toP, PyData.eqv]; exact eqvs_self ds (by simpa [toP, PyData.canLay0] using h)
  | .tup ds, h => by simp only [toP, PyData.eqv]; exact eqvs_self ds (by simpa [toP, PyData.canLay0] using h)
  | .dct _, h => by simp [toP, PyData.canLay0] at h
  | .exc _ _, h => by simp [toP, PyData.canLay0] at h
  | .dtt _, h => by simp [toP, PyData.canLay0] at h
theorem eqvs_self : ∀ ds : List D, PyData.canLayAll0 (toPs ds) = true → PyData.eqvAll (toPs ds) (toPs ds) = true
  | [], _ => by simp only [toPs, PyData.eqvAll]
  | d :: ds, h => by
    simp only [toPs, PyData.canLayAll0, Bool.and_eq_true] at h
    simp only [toPs, PyData.eqvAll, Bool.and_eq_true]
    exact ⟨eqv_self d h.1, eqvs_self ds h.2⟩
end
theorem eqd_self {d : D} (h : shp d = true) : eqd d d = true := eqv_self d (SeqAt.canLay_of_shaped h)
theorem gEq_self {d : D} {P : D → Prop} (h : shp d = true) : gEq d d P = P (.bl true) := by simp only [gEq, h, eqd_self h, true_and]
theorem gNe_self {d : D} {P : D → Prop} (h : shp d = true) : gNe d d P = P (.bl false) := by simp only [gNe, h, eqd_self h, true_and, Bool.not_true]
abbrev Tag {α : Sort u} (_ : α) : Type := Unit
/-- words in which simp does not go on: the argument is fixed by its tag -/
def stp {α : Type} (Q : α → Prop) (_ : Tag Q) : α → Prop := Q
def stp2 {α β : Type} (Q : α → β → Prop) (_ : Tag Q) : α → β → Prop := Q
def sif (b : Bool) (A B : DEnv → Prop) (_ : Tag A) (_ : Tag B) (δ : DEnv) : Prop := if b = true then A δ else B δ
def atK (ds : List D) (i : Int) (k : D → Prop) (_ : Tag k) : Prop := ∃ z, atI ds i = some z ∧ k z
def forS (tg : DG) (body : DS) (E : DEnds) (_ : Tag E) (ds : List D) (δ : DEnv) : Prop := forD tg body E ds δ
def compS (tg : DG) (t : DT) (fe : DE) (vs : List Nat) (Q : List D → DEnv → Prop) (_ : Tag Q) (ds acc : List D) (δ : DEnv) : Prop := compD tg t fe vs ds acc δ Q
def whlS (t : DT) (body : DS) (E : DEnds) (_ : Tag E) (δ : DEnv) : Prop := dWhile t body E δ
theorem stp_ap {α : Type} {Q : α → Prop} {t : Tag Q} {a : α} : stp Q t a = Q a := rfl
theorem stp2_ap {α β : Type} {Q : α → β → Prop} {t : Tag Q} {a : α} {b : β} : stp2 Q t a b = Q a b := rfl
theorem sif_t {A B : DEnv → Prop} {t : Tag A} {u : Tag B} {δ : DEnv} : sif true A B t u δ = A δ := rfl
theorem sif_f {A B : DEnv → Prop} {t : Tag A} {u : Tag B} {δ : DEnv} : sif false A B t u δ = B δ := rfl
theorem sif_pos {p : Prop} [Decidable p] {A B : DEnv → Prop} {t : Tag A} {u : Tag B} {δ : DEnv} (h : p) : sif (decide p) A B t u δ = A δ := by rw [decide_eq_true h]; rfl
theorem sif_neg {p : Prop} [Decidable p] {A B : DEnv → Prop} {t : Tag A} {u : Tag B} {δ : DEnv} (h : ¬ p) : sif (decide p) A B t u δ = B δ := by rw [decide_eq_false h]; rfl
theorem sif_npos {p : Prop} [Decidable p] {A B : DEnv → Prop} {t : Tag A} {u : Tag B} {δ : DEnv} (h : p) : sif (!decide p) A B t u δ = B δ := by rw [decide_eq_true h]; rfl
theorem sif_nneg {p : Prop} [Decidable p] {A B : DEnv → Prop} {t : Tag A} {u : Tag B} {δ : DEnv} (h : ¬ p) : sif (!decide p) A B t u δ = A δ := by rw [decide_eq_false h]; rfl
theorem atK_of {ds : List D} {i : Int} {k : D → Prop} {t : Tag k} {d : D} (h : atI ds i = some d) : atK ds i k t = k d := by unfold atK; rw [h]; simp
def setK (δ : DEnv) (i : Nat) (s : S) (k : DEnv → Prop) : Prop := k (δ.set i s)
def rdK (δ : DEnv) (i : Nat) (k : D → Prop) : Prop := ∃ d, rdAt δ i = some d ∧ k d
def ownK (δ : DEnv) (i : Nat) (k : D → Prop) : Prop := ∃ d, ownAt δ i = some d ∧ k d
def ownLK (δ : DEnv) (i : Nat) (k : List D → Prop) : Prop := ∃ ds, ownAt δ i = some (.lst ds) ∧ k ds
def hasK (δ : DEnv) (i : Nat) (p : Prop) : Prop := (∃ d, ownAt δ i = some d) ∧ p
def putK (δ : DEnv) (i : Nat) (d : D) (k : DEnv → Prop) : Prop := k (putAt δ i d)
def keepK (δ : DEnv) (i : Nat) (k : S → Prop) : Prop := k (keepV δ[i]?)
def wipeK (δ : DEnv) : List Nat → (DEnv → Prop) → Prop
  | [], k => k δ
  | v :: vs, k => wipeK δ vs fun δ' => setK δ' v .no k
def backK (δ0 δ : DEnv) : List Nat → (DEnv → Prop) → Prop
  | [], k => k δ
  | v :: vs, k => backK δ0 δ vs fun δ' => keepK δ0 v fun s => setK δ' v s k
theorem wipeK_eq (δ : DEnv) : ∀ (vs : List Nat) (k : DEnv → Prop), wipeK δ vs k = k (wipeD δ vs)
  | [], k => rfl
  | v :: vs, k => wipeK_eq δ vs _
theorem backK_eq (δ0 δ : DEnv) : ∀ (vs : List Nat) (k : DEnv → Prop), backK δ0 δ vs k = k (backD δ0 δ vs)
  | [], k => rfl
  | v :: vs, k => backK_eq δ0 δ vs _
theorem wipeK_nil {δ : DEnv} {k : DEnv → Prop} : wipeK δ [] k = k δ := rfl
theorem wipeK_cons {δ : DEnv} {v : Nat} {vs : List Nat} {k : DEnv → Prop} : wipeK δ (v :: vs) k = wipeK δ vs fun δ' => setK δ' v .no k := rfl
theorem backK_nil {δ δ0 : DEnv} {k : DEnv → Prop} : backK δ0 δ [] k = k δ := rfl
theorem backK_cons {δ δ0 : DEnv} {v : Nat} {vs : List Nat} {k : DEnv → Prop} : backK δ0 δ (v :: vs) k = backK δ0 δ vs fun δ' => keepK δ0 v fun s => setK δ' v s k := rfl
theorem keepV_no : keepV (some .no) = .no := rfl
theorem keepV_v {d : D} : keepV (some (.v d)) = .v d := rfl
theorem keepV_o {d : D} : keepV (some (.own d)) = .no := rfl
theorem keepV_l {d : D} : keepV (some (.lent d)) = .no := rfl
theorem ex_some {α : Type} {a : α} {k : α → Prop} : (∃ d, some a = some d ∧ k d) = k a := by simp
theorem rdK_of {δ : DEnv} {i : Nat} {d : D} {k : D → Prop} (h : rdAt δ i = some d) : rdK δ i k = k d := by unfold rdK; rw [h]; exact ex_some
theorem ownK_of {δ : DEnv} {i : Nat} {d : D} {k : D → Prop} (h : ownAt δ i = some d) : ownK δ i k = k d := by unfold ownK; rw [h]; exact ex_some
theorem ownLK_of {δ : DEnv} {i : Nat} {ds : List D} {k : List D → Prop} (h : ownAt δ i = some (.lst ds)) : ownLK δ i k = k ds := by unfold ownLK; rw [h]; simp
theorem hasK_of {δ : DEnv} {i : Nat} {d : D} {p : Prop} (h : ownAt δ i = some d) : hasK δ i p = p := by unfold hasK; rw [h]; simp
section
variable {i j l : Nat} {f f1 f2 f3 fe fj : DE} {fa : DA} {t t1 t2 : DT} {g g' : G2} {u : G1} {ga : GA} {gf : FD} {gm : FM} {g1 g2 body : DS} {E : DEnds} {δ : DEnv} {Q : D → DEnv → Prop} {QT : Bool → DEnv → Prop} {QA : List D → DEnv → Prop} {QO : Option Int → DEnv → Prop} {X : XC} {d d' e : D} {ds acc : List D} {h : Int → Int → D} {C : Int → Int → Prop} {x y : Int} {P : D → Prop} {tg : DG} {tgs : DGs} {src : DI} {vs : List Nat} {n : Nat} {k : DEnv → Prop} {lo hi : DO} {b : Bool}
theorem q_seq : dSeq g1 g2 E δ = g1 { E with nx := fun δ' => g2 E δ' } δ := rfl
theorem q_asg : dAsg f i E δ = f δ (fun d δ1 => setK δ1 i (.v d) E.nx) E.xx := rfl
theorem q_asgO : dAsgO f i E δ = f δ (fun d δ1 => setK δ1 i (.own d) E.nx) E.xx := rfl
theorem q_drop : dDrop f E δ = f δ (fun _ δ1 => E.nx δ1) E.xx := rfl
theorem q_ret : dRet f E δ = f δ (fun d δ1 => E.rt d δ1) E.xx := rfl
theorem q_retN : dRetN E δ = E.rt .non δ := rfl
theorem q_ifS : dIfS t g1 g2 E δ = t δ (fun b δ1 => sif b (g1 E) (g2 E) () () δ1) E.xx := rfl
theorem q_next : dNext E δ = E.nx δ := rfl
theorem q_brk : dBrk E δ = E.bk δ := rfl
theorem q_cnt : dCnt E δ = E.ct δ := rfl
theorem q_never : dNever E δ = False := rfl
theorem q_app : dApp i f E δ = ((∃ d, ownAt δ i = some (.lst d)) ∧ f δ (fun d δ1 => ownLK δ1 i fun ds => ds.length < sizeLine ∧ putK δ1 i (.lst (ds ++ [d])) E.nx) E.xx) := rfl
theorem q_put : dPut i fj fe E δ = fe δ (fun d δ1 => hasK δ1 i (fj δ1 (fun j δ2 => ∃ ds n m, ownAt δ2 i = some (.lst ds) ∧ j = .int n ∧ ixN ds.length n = some m ∧ E.nx (putAt δ2 i (.lst (ds.set m d)))) E.xx)) E.xx := rfl
theorem q_putI (x : Int) : dPut i (dC (.int x)) fe E δ = fe δ (fun d δ1 => ownLK δ1 i fun ds => ∃ m, ixN ds.length x = some m ∧ putK δ1 i (.lst (ds.set m d)) E.nx) E.xx := by
  unfold dPut dC ownLK putK
  simp only [D.int.injEq]
  congr 1
  funext d δ1
  apply propext
  constructor
  · rintro ⟨_, ds, n, m, h1, h2, h3, h4⟩
    cases h2
    exact ⟨ds, h1, m, h3, h4⟩
  · rintro ⟨ds, h1, m, h3, h4⟩
    exact ⟨⟨_, h1⟩, ds, _, m, h1, rfl, h3, h4⟩
theorem q_par : dPar i j fa E δ = fa δ (fun ds δ1 => ∃ d e, ds = [d, e] ∧ setK δ1 i (.v d) fun δ2 => setK δ2 j (.v e) E.nx) E.xx := rfl
theorem q_par3 : dPar3 i j l fa E δ = fa δ (fun ds δ1 => ∃ d e h, ds = [d, e, h] ∧ setK δ1 i (.v d) fun δ2 => setK δ2 j (.v e) fun δ3 => setK δ3 l (.v h) E.nx) E.xx := rfl
theorem q_asgT : dAsgT f tg E δ = f δ (fun d δ1 => tg d δ1 E.nx) E.xx := rfl
theorem q_for : dFor src tg body E δ = src δ (fun ds δ1 => forS tg body E () ds δ1) E.xx := rfl
theorem q_for0 {t : Tag E} : forS tg body E t [] δ = E.nx δ := rfl
theorem q_while : dWhile t body E δ = whlS t body E () δ := rfl
theorem q_forS {t : Tag E} : forS tg body E t (d :: ds) δ = tg d δ fun δ1 => body (loopE E (forS tg body E t ds)) δ1 := rfl
theorem q_c : dC d δ Q X = Q d δ := rfl
theorem q_op : dOp g f1 f2 δ Q X = f1 δ (fun x δ1 => f2 δ1 (fun y δ2 => g x y fun z => Q z δ2) X) X := rfl
theorem q_un : dUn u f1 δ Q X = f1 δ (fun x δ1 => u x fun z => Q z δ1) X := rfl
theorem q_cb : dCB ga fa δ Q X = fa δ (fun ds δ1 => ga ds fun z => Q z δ1) X := rfl
theorem q_call : dCall gf fa δ Q X = fa δ (fun ds δ1 => gf ds (stp (fun z => Q z δ1) ()) (stp (fun x => X x δ1) ())) X := rfl
theorem q_callM : dCallM i gm fa δ Q X = hasK δ i (fa δ (fun ds δ1 => ownK δ1 i fun d => gm d ds (stp2 (fun z d' => putK δ1 i d' fun δ2 => Q z δ2) ())) X) := rfl
theorem q_callMF : dCallMF f gm fa δ Q X = f δ (fun d δ1 => fa δ1 (fun ds δ2 => gm d ds (stp2 (fun z _ => Q z δ2) ())) X) X := rfl
theorem q_tup : dTup fa δ Q X = fa δ (fun ds δ1 => ds.length ≤ sizeLine ∧ Q (.tup ds) δ1) X := rfl
theorem q_lst : dLst fa δ Q X = fa δ (fun ds δ1 => ds.length ≤ sizeLine ∧ Q (.lst ds) δ1) X := rfl
theorem q_cons : dCons f fa δ QA X = f δ (fun d δ1 => fa δ1 (fun ds δ2 => QA (d :: ds) δ2) X) X := rfl
theorem q_nil : dNil δ QA X = QA [] δ := rfl
theorem q_test : dTest f δ QT X = f δ (fun d δ1 => match d with | .bl k => QT k δ1 | _ => False) X := rfl
theorem q_not : dNot t δ QT X = t δ (fun b δ1 => QT (!b) δ1) X := rfl
theorem q_and : dAnd t1 t2 δ QT X = t1 δ (fun b δ1 => sif b (fun δ1 => t2 δ1 QT X) (fun δ1 => QT false δ1) () () δ1) X := rfl
theorem q_or : dOr t1 t2 δ QT X = t1 δ (fun b δ1 => sif b (fun δ1 => QT true δ1) (fun δ1 => t2 δ1 QT X) () () δ1) X := rfl
theorem q_andV : dAndV f1 f2 δ Q X = f1 δ (fun d δ1 => match d with | .bl k => sif k (fun δ1 => f2 δ1 Q X) (fun δ1 => Q (.bl false) δ1) () () δ1 | _ => False) X := rfl
theorem q_orV : dOrV f1 f2 δ Q X = f1 δ (fun d δ1 => match d with | .bl k => sif k (fun δ1 => Q (.bl true) δ1) (fun δ1 => f2 δ1 Q X) () () δ1 | _ => False) X := rfl
theorem q_if : dIf t f1 f2 δ Q X = t δ (fun b δ1 => sif b (fun δ1 => f1 δ1 Q X) (fun δ1 => f2 δ1 Q X) () () δ1) X := rfl
theorem q_isN : dIsN f δ Q X = f δ (fun d δ1 => Q (.bl (DL.isNon d)) δ1) X := rfl
theorem q_notN : dNotN f δ Q X = f δ (fun d δ1 => Q (.bl (!DL.isNon d)) δ1) X := rfl
theorem q_I : gI C h (.int x) (.int y) P = (C x y ∧ P (h x y)) := rfl
theorem q_I0 : gI0 h (.int x) (.int y) P = P (h x y) := rfl
theorem q_eq : gEq d e P = (shp d = true ∧ shp e = true ∧ P (.bl (eqd d e))) := rfl
theorem q_eqI : gEq (.int x) (.int y) P = P (.bl (decide (x = y))) := by simp only [gEq, shp_int, eqd_int, true_and]
theorem q_neI : gNe (.int x) (.int y) P = P (.bl (!decide (x = y))) := by simp only [gNe, shp_int, eqd_int, true_and]
theorem q_eqB {b c : Bool} : gEq (.bl b) (.bl c) P = P (.bl (b == c)) := by simp only [gEq, shp_bl, eqd_bl, true_and]
theorem q_neB {b c : Bool} : gNe (.bl b) (.bl c) P = P (.bl (!(b == c))) := by simp only [gNe, shp_bl, eqd_bl, true_and]
theorem q_ne : gNe d e P = (shp d = true ∧ shp e = true ∧ P (.bl (!eqd d e))) := rfl
theorem q_eqLL {dz : List D} {a b : Str} : gEq (.lst ds) (.lst dz) P = (shp (.lst ds) = true ∧ shp (.lst dz) = true ∧ P (.bl (eqd (.lst ds) (.lst dz)))) := rfl
theorem q_neLL {dz : List D} {a b : Str} : gNe (.lst ds) (.lst dz) P = (shp (.lst ds) = true ∧ shp (.lst dz) = true ∧ P (.bl (!eqd (.lst ds) (.lst dz)))) := rfl
theorem q_eqLT {dz : List D} {a b : Str} : gEq (.lst ds) (.tup dz) P = (shp (.lst ds) = true ∧ shp (.tup dz) = true ∧ P (.bl (eqd (.lst ds) (.tup dz)))) := rfl
theorem q_neLT {dz : List D} {a b : Str} : gNe (.lst ds) (.tup dz) P = (shp (.lst ds) = true ∧ shp (.tup dz) = true ∧ P (.bl (!eqd (.lst ds) (.tup dz)))) := rfl
theorem q_eqLN {dz : List D} {a b : Str} : gEq (.lst ds) .non P = (shp (.lst ds) = true ∧ shp .non = true ∧ P (.bl (eqd (.lst ds) .non))) := rfl
theorem q_neLN {dz : List D} {a b : Str} : gNe (.lst ds) .non P = (shp (.lst ds) = true ∧ shp .non = true ∧ P (.bl (!eqd (.lst ds) .non))) := rfl
theorem q_eqLS {dz : List D} {a b : Str} : gEq (.lst ds) (.str b) P = (shp (.lst ds) = true ∧ shp (.str b) = true ∧ P (.bl (eqd (.lst ds) (.str b)))) := rfl
theorem q_neLS {dz : List D} {a b : Str} : gNe (.lst ds) (.str b) P = (shp (.lst ds) = true ∧ shp (.str b) = true ∧ P (.bl (!eqd (.lst ds) (.str b)))) := rfl
theorem q_eqTL {dz : List D} {a b : Str} : gEq (.tup ds) (.lst dz) P = (shp (.tup ds) = true ∧ shp (.lst dz) = true ∧ P (.bl (eqd (.tup ds) (.lst dz)))) := rfl
theorem q_neTL {dz : List D} {a b : Str} : gNe (.tup ds) (.lst dz) P = (shp (.tup ds) = true ∧ shp (.lst dz) = true ∧ P (.bl (!eqd (.tup ds) (.lst dz)))) := rfl
theorem q_eqTT {dz : List D} {a b : Str} : gEq (.tup ds) (.tup dz) P = (shp (.tup ds) = true ∧ shp (.tup dz) = true ∧ P (.bl (eqd (.tup ds) (.tup dz)))) := rfl
theorem q_neTT {dz : List D} {a b : Str} : gNe (.tup ds) (.tup dz) P = (shp (.tup ds) = true ∧ shp (.tup dz) = true ∧ P (.bl (!eqd (.tup ds) (.tup dz)))) := rfl
theorem q_eqTN {dz : List D} {a b : Str} : gEq (.tup ds) .non P = (shp (.tup ds) = true ∧ shp .non = true ∧ P (.bl (eqd (.tup ds) .non))) := rfl
theorem q_neTN {dz : List D} {a b : Str} : gNe (.tup ds) .non P = (shp (.tup ds) = true ∧ shp .non = true ∧ P (.bl (!eqd (.tup ds) .non))) := rfl
theorem q_eqTS {dz : List D} {a b : Str} : gEq (.tup ds) (.str b) P = (shp (.tup ds) = true ∧ shp (.str b) = true ∧ P (.bl (eqd (.tup ds) (.str b)))) := rfl
theorem q_neTS {dz : List D} {a b : Str} : gNe (.tup ds) (.str b) P = (shp (.tup ds) = true ∧ shp (.str b) = true ∧ P (.bl (!eqd (.tup ds) (.str b)))) := rfl
theorem q_eqNL {dz : List D} {a b : Str} : gEq .non (.lst dz) P = (shp .non = true ∧ shp (.lst dz) = true ∧ P (.bl (eqd .non (.lst dz)))) := rfl
theorem q_neNL {dz : List D} {a b : Str} : gNe .non (.lst dz) P = (shp .non = true ∧ shp (.lst dz) = true ∧ P (.bl (!eqd .non (.lst dz)))) := rfl
theorem q_eqNT {dz : List D} {a b : Str} : gEq .non (.tup dz) P = (shp .non = true ∧ shp (.tup dz) = true ∧ P (.bl (eqd .non (.tup dz)))) := rfl
theorem q_neNT {dz : List D} {a b : Str} : gNe .non (.tup dz) P = (shp .non = true ∧ shp (.tup dz) = true ∧ P (.bl (!eqd .non (.tup dz)))) := rfl
theorem q_eqNN {dz : List D} {a b : Str} : gEq .non .non P = (shp .non = true ∧ shp .non = true ∧ P (.bl (eqd .non .non))) := rfl
theorem q_neNN {dz : List D} {a b : Str} : gNe .non .non P = (shp .non = true ∧ shp .non = true ∧ P (.bl (!eqd .non .non))) := rfl
theorem q_eqNS {dz : List D} {a b : Str} : gEq .non (.str b) P = (shp .non = true ∧ shp (.str b) = true ∧ P (.bl (eqd .non (.str b)))) := rfl
theorem q_neNS {dz : List D} {a b : Str} : gNe .non (.str b) P = (shp .non = true ∧ shp (.str b) = true ∧ P (.bl (!eqd .non (.str b)))) := rfl
theorem q_eqSL {dz : List D} {a b : Str} : gEq (.str a) (.lst dz) P = (shp (.str a) = true ∧ shp (.lst dz) = true ∧ P (.bl (eqd (.str a) (.lst dz)))) := rfl
theorem q_neSL {dz : List D} {a b : Str} : gNe (.str a) (.lst dz) P = (shp (.str a) = true ∧ shp (.lst dz) = true ∧ P (.bl (!eqd (.str a) (.lst dz)))) := rfl
theorem q_eqST {dz : List D} {a b : Str} : gEq (.str a) (.tup dz) P = (shp (.str a) = true ∧ shp (.tup dz) = true ∧ P (.bl (eqd (.str a) (.tup dz)))) := rfl
theorem q_neST {dz : List D} {a b : Str} : gNe (.str a) (.tup dz) P = (shp (.str a) = true ∧ shp (.tup dz) = true ∧ P (.bl (!eqd (.str a) (.tup dz)))) := rfl
theorem q_eqSN {dz : List D} {a b : Str} : gEq (.str a) .non P = (shp (.str a) = true ∧ shp .non = true ∧ P (.bl (eqd (.str a) .non))) := rfl
theorem q_neSN {dz : List D} {a b : Str} : gNe (.str a) .non P = (shp (.str a) = true ∧ shp .non = true ∧ P (.bl (!eqd (.str a) .non))) := rfl
theorem q_eqSS {dz : List D} {a b : Str} : gEq (.str a) (.str b) P = (shp (.str a) = true ∧ shp (.str b) = true ∧ P (.bl (eqd (.str a) (.str b)))) := rfl
theorem q_neSS {dz : List D} {a b : Str} : gNe (.str a) (.str b) P = (shp (.str a) = true ∧ shp (.str b) = true ∧ P (.bl (!eqd (.str a) (.str b)))) := rfl
theorem q_ixL : gIx (.lst ds) (.int x) P = atK ds x P () := rfl
theorem q_ixT : gIx (.tup ds) (.int x) P = atK ds x P () := rfl
theorem q_neg : gNeg (.int x) P = P (.int (-x)) := rfl
theorem q_gnot : gNot (.bl b) P = P (.bl (!b)) := rfl
theorem q_lenL : gLen [.lst ds] P = P (.int (ds.length : Int)) := rfl
theorem q_lenT : gLen [.tup ds] P = P (.int (ds.length : Int)) := rfl
theorem q_abs : gAbs [.int x] P = P (.int (if x < 0 then -x else x)) := rfl
theorem q_max2 : gMax2 [.int x, .int y] P = P (.int (if y > x then y else x)) := rfl
theorem q_min2 : gMin2 [.int x, .int y] P = P (.int (if y < x then y else x)) := rfl
theorem q_int : gInt [.int x] P = P (.int x) := rfl
theorem q_intB : gInt [.bl b] P = P (.int (if b then 1 else 0)) := rfl
theorem q_listL : gList [.lst ds] P = P (.lst ds) := rfl
theorem q_listT : gList [.tup ds] P = P (.lst ds) := rfl
theorem q_bls {H : List Bool → D} : gBls H [.lst ds] P = ∃ bs, blsOf ds = some bs ∧ P (H bs) := rfl
theorem bls_nil : blsOf [] = some [] := rfl
theorem bls_cons : blsOf (.bl b :: ds) = (blsOf ds).map (b :: ·) := rfl
theorem q_ii : gIsi "int" (.int x) P = P (.bl true) := by unfold gIsi tyD isExc; simp [show kitB "int" "int" = some true by decide +kernel]
theorem q_ib : gIsi "bool" (.int x) P = P (.bl false) := by unfold gIsi tyD isExc; simp [show kitB "int" "bool" = some false by decide +kernel]
theorem q_it : gIsi "tuple" (.int x) P = P (.bl false) := by unfold gIsi tyD isExc; simp [show kitB "int" "tuple" = some false by decide +kernel]
theorem q_bb : gIsi "bool" (.bl b) P = P (.bl true) := by unfold gIsi tyD isExc; simp [show kitB "bool" "bool" = some true by decide +kernel]
theorem q_bi : gIsi "int" (.bl b) P = P (.bl true) := by unfold gIsi tyD isExc; simp [show kitB "bool" "int" = some true by decide +kernel]
theorem q_tt : gIsi "tuple" (.tup ds) P = P (.bl true) := by unfold gIsi tyD isExc; simp [show kitB "tuple" "tuple" = some true by decide +kernel]
theorem q_ll : gIsi "list" (.lst ds) P = P (.bl true) := by unfold gIsi tyD isExc; simp [show kitB "list" "list" = some true by decide +kernel]
theorem q_tl : gIsi "list" (.tup ds) P = P (.bl false) := by unfold gIsi tyD isExc; simp [show kitB "tuple" "list" = some false by decide +kernel]
theorem q_nt : gIsi "tuple" .non P = P (.bl false) := by unfold gIsi tyD isExc; simp [show kitB "NoneType" "tuple" = some false by decide +kernel]
theorem q_tn : tgName i d δ k = setK δ i (.v d) k := rfl
theorem q_tt2 : tgTup tgs n d δ k = ∃ ds, d = .tup ds ∧ ds.length = n ∧ tgs ds δ k := rfl
theorem q_ttT : tgTup tgs n (.tup ds) δ k = (ds.length = n ∧ tgs ds δ k) := by unfold tgTup; simp
theorem q_tlL : tgLst tgs n (.lst ds) δ k = (ds.length = n ∧ tgs ds δ k) := by unfold tgLst; simp
theorem q_tnil : tgNil [] δ k = k δ := by unfold tgNil; simp
theorem q_tcons : tgCons tg tgs (d :: ds) δ k = tg d δ fun δ1 => tgs ds δ1 k := propext ⟨fun ⟨_, _, e, h⟩ => by cases e; exact h, fun h => ⟨_, _, rfl, h⟩⟩
theorem q_iL : iLst f δ QA X = f δ (fun d δ1 => ∃ ds, d = .lst ds ∧ QA ds δ1) X := rfl
theorem q_iT : iTp f δ QA X = f δ (fun d δ1 => ∃ ds, d = .tup ds ∧ QA ds δ1) X := rfl
theorem q_R1 : iR1 fa δ QA X = fa δ (fun ds δ1 => ∃ j : Int, ds = [.int j] ∧ -(2 ^ 62) ≤ j ∧ j < 2 ^ 62 ∧ QA (rngD 0 j.toNat) δ1) X := rfl
theorem q_R2 : iR2 fa δ QA X = fa δ (fun ds δ1 => ∃ i j : Int, ds = [.int i, .int j] ∧ (-(2 ^ 62) ≤ i ∧ i < 2 ^ 62 ∧ -(2 ^ 62) ≤ j ∧ j < 2 ^ 62) ∧ QA (rngD i (j - i).toNat) δ1) X := rfl
theorem q_comp : dComp src tg t fe vs δ Q X = src δ (fun ds δ1 => wipeK δ1 vs fun δ2 => compS tg t fe vs (fun acc δ3 => backK δ1 δ3 vs fun δ4 => Q (.lst acc) δ4) () ds [] δ2) X := by
  unfold dComp compS
  simp only [wipeK_eq, backK_eq]
theorem q_comp0 {Q : List D → DEnv → Prop} {u : Tag Q} : compS tg t fe vs Q u [] acc δ = Q acc δ := rfl
theorem q_compS {Q : List D → DEnv → Prop} {u : Tag Q} : compS tg t fe vs Q u (d :: ds) acc δ = tg d δ fun δ1 => t δ1 (fun b δ2 => sif b (fun δ2 => fe δ2 (fun y δ3 => acc.length < sizeLine ∧ wipeK δ3 vs fun δ4 => compS tg t fe vs Q u ds (acc ++ [y]) δ4) xF) (fun δ2 => wipeK δ2 vs fun δ4 => compS tg t fe vs Q u ds acc δ4) () () δ2) xF := by
  unfold compS sif
  simp only [wipeK_eq]; rfl
theorem q_yes : dYes δ QT X = QT true δ := rfl
theorem q_cat : dCat f1 f2 δ Q X = f1 δ (fun x δ1 => f2 δ1 (fun y δ2 => ∃ xs ys, x = .lst xs ∧ y = .lst ys ∧ xs.length + ys.length ≤ sizeLine ∧ Q (.lst (xs ++ ys)) δ2) X) X := rfl
theorem q_sl : dSlL f lo hi δ Q X = f δ (fun d δ1 => lo δ1 (fun l δ2 => hi δ2 (fun h δ3 => ∃ xs, d = .lst xs ∧ Q (.lst (cutD xs l h)) δ3) X) X) X := rfl
theorem q_oN : oN δ QO X = QO none δ := rfl
theorem q_oS : oS f δ QO X = f δ (fun d δ1 => ∃ i, d = .int i ∧ QO (some i) δ1) X := rfl
theorem q_rev : dRev f δ Q X = f δ (fun d δ1 => ∃ xs, d = .lst xs ∧ Q (.lst xs.reverse) δ1) X := rfl
theorem q_chain : dChain g g' f1 f2 f3 δ Q X = f1 δ (fun x δ1 => f2 δ1 (fun y δ2 => g x y fun z => match z with
  | .bl k => sif k (fun δ2 => f3 δ2 (fun w δ3 => g' y w fun z => Q z δ3) X) (fun δ2 => Q (.bl false) δ2) () () δ2
  | _ => False) X) X := rfl
theorem q_nix : dNIx i fe δ Q X = ((∃ d, rdAt δ i = some d) ∧ fe δ (fun j δ1 => rdK δ1 i fun d => gIx d j fun z => Q z δ1) X) := rfl
theorem q_nlen : dNLen i δ Q X = rdK δ i fun d => gLen [d] fun z => Q z δ := rfl
theorem q_aug {h : Int → Int → Int} : dAug i h f E δ = ∃ n, δ[i]? = some (.v (.int n)) ∧ f δ (fun d δ1 => ∃ m, d = .int m ∧ setK δ1 i (.v (.int (h n m))) E.nx) E.xx := rfl
theorem q_loop {n : DEnv → Prop} : loopE E n = { nx := n, ct := n, bk := E.nx, rt := E.rt, xx := E.xx } := rfl
theorem q_fnE {fr : Bool} {Q : D → Prop} {X : XD → Prop} : fnE fr Q X = { nx := fun _ => fr = false ∧ Q .non, rt := fun d _ => Q d, bk := fun _ => False, ct := fun _ => False, xx := fun x _ => X x } := rfl
theorem q_fnM {fr : Bool} {Q : D → D → Prop} : fnM fr Q = { nx := fun δ => fr = false ∧ ∃ d, δ[0]? = some (.lent d) ∧ Q .non d, rt := fun z δ => ∃ d, δ[0]? = some (.lent d) ∧ Q z d, bk := fun _ => False, ct := fun _ => False, xx := fun _ _ => False } := rfl
theorem ex_int {k : Int → Prop} : (∃ i, D.int x = D.int i ∧ k i) = k x := by simp
theorem ex_lst {k : List D → Prop} : (∃ i, D.lst ds = D.lst i ∧ k i) = k ds := by simp
theorem ex_tup {k : List D → Prop} : (∃ i, D.tup ds = D.tup i ∧ k i) = k ds := by simp
theorem ex_2 {k : D → D → Prop} : (∃ a b, [d, e] = [a, b] ∧ k a b) = k d e := propext ⟨fun ⟨_, _, e, h⟩ => by cases e; exact h, fun h => ⟨_, _, rfl, h⟩⟩
theorem ex_3 {k : D → D → D → Prop} : (∃ a b c, [d, d', e] = [a, b, c] ∧ k a b c) = k d d' e := propext ⟨fun ⟨_, _, _, e, h⟩ => by cases e; exact h, fun h => ⟨_, _, _, rfl, h⟩⟩
theorem ex_1i {k : Int → Prop} : (∃ j, [D.int x] = [D.int j] ∧ k j) = k x := by simp
theorem ex_2i {k : Int → Int → Prop} : (∃ i j, [D.int x, D.int y] = [D.int i, D.int j] ∧ k i j) = k x y := propext ⟨fun ⟨_, _, e, h⟩ => by cases e; exact h, fun h => ⟨_, _, rfl, h⟩⟩
theorem ex_2l {ds' : List D} {k : List D → List D → Prop} : (∃ a b, D.lst ds = D.lst a ∧ D.lst ds' = D.lst b ∧ k a b) = k ds ds' := by simp
theorem ex_at {α : Type} {a : α} {k : α → Prop} : (∃ z, some a = some z ∧ k z) = k a := by simp
end
section
variable {Q : D → DEnv → Prop} {X : XC} {E : DEnds} {d e : D} {s t : S} {k : DEnv → Prop} {kd : D → Prop} {kl : List D → Prop} {ks : S → Prop} {p : Prop} {f fe : DE} {ds : List D} {r : DEnv} {x : Int} {ki : Int → Prop}
theorem k_vv0 : dVal 0 (S.v d :: r) Q X = Q d (S.v d :: r) := rfl
theorem k_vv1 {a0 : S} : dVal 1 (a0 :: S.v d :: r) Q X = Q d (a0 :: S.v d :: r) := rfl
theorem k_vv2 {a0 a1 : S} : dVal 2 (a0 :: a1 :: S.v d :: r) Q X = Q d (a0 :: a1 :: S.v d :: r) := rfl
theorem k_vv3 {a0 a1 a2 : S} : dVal 3 (a0 :: a1 :: a2 :: S.v d :: r) Q X = Q d (a0 :: a1 :: a2 :: S.v d :: r) := rfl
theorem k_vv4 {a0 a1 a2 a3 : S} : dVal 4 (a0 :: a1 :: a2 :: a3 :: S.v d :: r) Q X = Q d (a0 :: a1 :: a2 :: a3 :: S.v d :: r) := rfl
theorem k_vv5 {a0 a1 a2 a3 a4 : S} : dVal 5 (a0 :: a1 :: a2 :: a3 :: a4 :: S.v d :: r) Q X = Q d (a0 :: a1 :: a2 :: a3 :: a4 :: S.v d :: r) := rfl
theorem k_vv6 {a0 a1 a2 a3 a4 a5 : S} : dVal 6 (a0 :: a1 :: a2 :: a3 :: a4 :: a5 :: S.v d :: r) Q X = Q d (a0 :: a1 :: a2 :: a3 :: a4 :: a5 :: S.v d :: r) := rfl
theorem k_vv7 {a0 a1 a2 a3 a4 a5 a6 : S} : dVal 7 (a0 :: a1 :: a2 :: a3 :: a4 :: a5 :: a6 :: S.v d :: r) Q X = Q d (a0 :: a1 :: a2 :: a3 :: a4 :: a5 :: a6 :: S.v d :: r) := rfl
theorem k_vv8 {a0 a1 a2 a3 a4 a5 a6 a7 : S} : dVal 8 (a0 :: a1 :: a2 :: a3 :: a4 :: a5 :: a6 :: a7 :: S.v d :: r) Q X = Q d (a0 :: a1 :: a2 :: a3 :: a4 :: a5 :: a6 :: a7 :: S.v d :: r) := rfl
theorem k_vv9 {a0 a1 a2 a3 a4 a5 a6 a7 a8 : S} : dVal 9 (a0 :: a1 :: a2 :: a3 :: a4 :: a5 :: a6 :: a7 :: a8 :: S.v d :: r) Q X = Q d (a0 :: a1 :: a2 :: a3 :: a4 :: a5 :: a6 :: a7 :: a8 :: S.v d :: r) := rfl
theorem k_vv10 {a0 a1 a2 a3 a4 a5 a6 a7 a8 a9 : S} : dVal 10 (a0 :: a1 :: a2 :: a3 :: a4 :: a5 :: a6 :: a7 :: a8 :: a9 :: S.v d :: r) Q X = Q d (a0 :: a1 :: a2 :: a3 :: a4 :: a5 :: a6 :: a7 :: a8 :: a9 :: S.v d :: r) := rfl
theorem k_vv11 {a0 a1 a2 a3 a4 a5 a6 a7 a8 a9 a10 : S} : dVal 11 (a0 :: a1 :: a2 :: a3 :: a4 :: a5 :: a6 :: a7 :: a8 :: a9 :: a10 :: S.v d :: r) Q X = Q d (a0 :: a1 :: a2 :: a3 :: a4 :: a5 :: a6 :: a7 :: a8 :: a9 :: a10 :: S.v d :: r) := rfl
theorem k_vv12 {a0 a1 a2 a3 a4 a5 a6 a7 a8 a9 a10 a11 : S} : dVal 12 (a0 :: a1 :: a2 :: a3 :: a4 :: a5 :: a6 :: a7 :: a8 :: a9 :: a10 :: a11 :: S.v d :: r) Q X = Q d (a0 :: a1 :: a2 :: a3 :: a4 :: a5 :: a6 :: a7 :: a8 :: a9 :: a10 :: a11 :: S.v d :: r) := rfl
theorem k_vv13 {a0 a1 a2 a3 a4 a5 a6 a7 a8 a9 a10 a11 a12 : S} : dVal 13 (a0 :: a1 :: a2 :: a3 :: a4 :: a5 :: a6 :: a7 :: a8 :: a9 :: a10 :: a11 :: a12 :: S.v d :: r) Q X = Q d (a0 :: a1 :: a2 :: a3 :: a4 :: a5 :: a6 :: a7 :: a8 :: a9 :: a10 :: a11 :: a12 :: S.v d :: r) := rfl
theorem k_vv14 {a0 a1 a2 a3 a4 a5 a6 a7 a8 a9 a10 a11 a12 a13 : S} : dVal 14 (a0 :: a1 :: a2 :: a3 :: a4 :: a5 :: a6 :: a7 :: a8 :: a9 :: a10 :: a11 :: a12 :: a13 :: S.v d :: r) Q X = Q d (a0 :: a1 :: a2 :: a3 :: a4 :: a5 :: a6 :: a7 :: a8 :: a9 :: a10 :: a11 :: a12 :: a13 :: S.v d :: r) := rfl
theorem k_vv15 {a0 a1 a2 a3 a4 a5 a6 a7 a8 a9 a10 a11 a12 a13 a14 : S} : dVal 15 (a0 :: a1 :: a2 :: a3 :: a4 :: a5 :: a6 :: a7 :: a8 :: a9 :: a10 :: a11 :: a12 :: a13 :: a14 :: S.v d :: r) Q X = Q d (a0 :: a1 :: a2 :: a3 :: a4 :: a5 :: a6 :: a7 :: a8 :: a9 :: a10 :: a11 :: a12 :: a13 :: a14 :: S.v d :: r) := rfl
theorem k_vv16 {a0 a1 a2 a3 a4 a5 a6 a7 a8 a9 a10 a11 a12 a13 a14 a15 : S} : dVal 16 (a0 :: a1 :: a2 :: a3 :: a4 :: a5 :: a6 :: a7 :: a8 :: a9 :: a10 :: a11 :: a12 :: a13 :: a14 :: a15 :: S.v d :: r) Q X = Q d (a0 :: a1 :: a2 :: a3 :: a4 :: a5 :: a6 :: a7 :: a8 :: a9 :: a10 :: a11 :: a12 :: a13 :: a14 :: a15 :: S.v d :: r) := rfl
theorem k_vv17 {a0 a1 a2 a3 a4 a5 a6 a7 a8 a9 a10 a11 a12 a13 a14 a15 a16 : S} : dVal 17 (a0 :: a1 :: a2 :: a3 :: a4 :: a5 :: a6 :: a7 :: a8 :: a9 :: a10 :: a11 :: a12 :: a13 :: a14 :: a15 :: a16 :: S.v d :: r) Q X = Q d (a0 :: a1 :: a2 :: a3 :: a4 :: a5 :: a6 :: a7 :: a8 :: a9 :: a10 :: a11 :: a12 :: a13 :: a14 :: a15 :: a16 :: S.v d :: r) := rfl
theorem k_vv18 {a0 a1 a2 a3 a4 a5 a6 a7 a8 a9 a10 a11 a12 a13 a14 a15 a16 a17 : S} : dVal 18 (a0 :: a1 :: a2 :: a3 :: a4 :: a5 :: a6 :: a7 :: a8 :: a9 :: a10 :: a11 :: a12 :: a13 :: a14 :: a15 :: a16 :: a17 :: S.v d :: r) Q X = Q d (a0 :: a1 :: a2 :: a3 :: a4 :: a5 :: a6 :: a7 :: a8 :: a9 :: a10 :: a11 :: a12 :: a13 :: a14 :: a15 :: a16 :: a17 :: S.v d :: r) := rfl
theorem k_vv19 {a0 a1 a2 a3 a4 a5 a6 a7 a8 a9 a10 a11 a12 a13 a14 a15 a16 a17 a18 : S} : dVal 19 (a0 :: a1 :: a2 :: a3 :: a4 :: a5 :: a6 :: a7 :: a8 :: a9 :: a10 :: a11 :: a12 :: a13 :: a14 :: a15 :: a16 :: a17 :: a18 :: S.v d :: r) Q X = Q d (a0 :: a1 :: a2 :: a3 :: a4 :: a5 :: a6 :: a7 :: a8 :: a9 :: a10 :: a11 :: a12 :: a13 :: a14 :: a15 :: a16 :: a17 :: a18 :: S.v d :: r) := rfl
theorem k_vv20 {a0 a1 a2 a3 a4 a5 a6 a7 a8 a9 a10 a11 a12 a13 a14 a15 a16 a17 a18 a19 : S} : dVal 20 (a0 :: a1 :: a2 :: a3 :: a4 :: a5 :: a6 :: a7 :: a8 :: a9 :: a10 :: a11 :: a12 :: a13 :: a14 :: a15 :: a16 :: a17 :: a18 :: a19 :: S.v d :: r) Q X = Q d (a0 :: a1 :: a2 :: a3 :: a4 :: a5 :: a6 :: a7 :: a8 :: a9 :: a10 :: a11 :: a12 :: a13 :: a14 :: a15 :: a16 :: a17 :: a18 :: a19 :: S.v d :: r) := rfl
theorem k_vv21 {a0 a1 a2 a3 a4 a5 a6 a7 a8 a9 a10 a11 a12 a13 a14 a15 a16 a17 a18 a19 a20 : S} : dVal 21 (a0 :: a1 :: a2 :: a3 :: a4 :: a5 :: a6 :: a7 :: a8 :: a9 :: a10 :: a11 :: a12 :: a13 :: a14 :: a15 :: a16 :: a17 :: a18 :: a19 :: a20 :: S.v d :: r) Q X = Q d (a0 :: a1 :: a2 :: a3 :: a4 :: a5 :: a6 :: a7 :: a8 :: a9 :: a10 :: a11 :: a12 :: a13 :: a14 :: a15 :: a16 :: a17 :: a18 :: a19 :: a20 :: S.v d :: r) := rfl
theorem k_vv22 {a0 a1 a2 a3 a4 a5 a6 a7 a8 a9 a10 a11 a12 a13 a14 a15 a16 a17 a18 a19 a20 a21 : S} : dVal 22 (a0 :: a1 :: a2 :: a3 :: a4 :: a5 :: a6 :: a7 :: a8 :: a9 :: a10 :: a11 :: a12 :: a13 :: a14 :: a15 :: a16 :: a17 :: a18 :: a19 :: a20 :: a21 :: S.v d :: r) Q X = Q d (a0 :: a1 :: a2 :: a3 :: a4 :: a5 :: a6 :: a7 :: a8 :: a9 :: a10 :: a11 :: a12 :: a13 :: a14 :: a15 :: a16 :: a17 :: a18 :: a19 :: a20 :: a21 :: S.v d :: r) := rfl
theorem k_vv23 {a0 a1 a2 a3 a4 a5 a6 a7 a8 a9 a10 a11 a12 a13 a14 a15 a16 a17 a18 a19 a20 a21 a22 : S} : dVal 23 (a0 :: a1 :: a2 :: a3 :: a4 :: a5 :: a6 :: a7 :: a8 :: a9 :: a10 :: a11 :: a12 :: a13 :: a14 :: a15 :: a16 :: a17 :: a18 :: a19 :: a20 :: a21 :: a22 :: S.v d :: r) Q X = Q d (a0 :: a1 :: a2 :: a3 :: a4 :: a5 :: a6 :: a7 :: a8 :: a9 :: a10 :: a11 :: a12 :: a13 :: a14 :: a15 :: a16 :: a17 :: a18 :: a19 :: a20 :: a21 :: a22 :: S.v d :: r) := rfl
theorem k_vv24 {a0 a1 a2 a3 a4 a5 a6 a7 a8 a9 a10 a11 a12 a13 a14 a15 a16 a17 a18 a19 a20 a21 a22 a23 : S} : dVal 24 (a0 :: a1 :: a2 :: a3 :: a4 :: a5 :: a6 :: a7 :: a8 :: a9 :: a10 :: a11 :: a12 :: a13 :: a14 :: a15 :: a16 :: a17 :: a18 :: a19 :: a20 :: a21 :: a22 :: a23 :: S.v d :: r) Q X = Q d (a0 :: a1 :: a2 :: a3 :: a4 :: a5 :: a6 :: a7 :: a8 :: a9 :: a10 :: a11 :: a12 :: a13 :: a14 :: a15 :: a16 :: a17 :: a18 :: a19 :: a20 :: a21 :: a22 :: a23 :: S.v d :: r) := rfl
theorem k_vv25 {a0 a1 a2 a3 a4 a5 a6 a7 a8 a9 a10 a11 a12 a13 a14 a15 a16 a17 a18 a19 a20 a21 a22 a23 a24 : S} : dVal 25 (a0 :: a1 :: a2 :: a3 :: a4 :: a5 :: a6 :: a7 :: a8 :: a9 :: a10 :: a11 :: a12 :: a13 :: a14 :: a15 :: a16 :: a17 :: a18 :: a19 :: a20 :: a21 :: a22 :: a23 :: a24 :: S.v d :: r) Q X = Q d (a0 :: a1 :: a2 :: a3 :: a4 :: a5 :: a6 :: a7 :: a8 :: a9 :: a10 :: a11 :: a12 :: a13 :: a14 :: a15 :: a16 :: a17 :: a18 :: a19 :: a20 :: a21 :: a22 :: a23 :: a24 :: S.v d :: r) := rfl
theorem k_vo0 : dVal 0 (S.own d :: r) Q X = Q d (S.v d :: r) := rfl
theorem k_vo1 {a0 : S} : dVal 1 (a0 :: S.own d :: r) Q X = Q d (a0 :: S.v d :: r) := rfl
theorem k_vo2 {a0 a1 : S} : dVal 2 (a0 :: a1 :: S.own d :: r) Q X = Q d (a0 :: a1 :: S.v d :: r) := rfl
theorem k_vo3 {a0 a1 a2 : S} : dVal 3 (a0 :: a1 :: a2 :: S.own d :: r) Q X = Q d (a0 :: a1 :: a2 :: S.v d :: r) := rfl
theorem k_vo4 {a0 a1 a2 a3 : S} : dVal 4 (a0 :: a1 :: a2 :: a3 :: S.own d :: r) Q X = Q d (a0 :: a1 :: a2 :: a3 :: S.v d :: r) := rfl
theorem k_vo5 {a0 a1 a2 a3 a4 : S} : dVal 5 (a0 :: a1 :: a2 :: a3 :: a4 :: S.own d :: r) Q X = Q d (a0 :: a1 :: a2 :: a3 :: a4 :: S.v d :: r) := rfl
theorem k_vo6 {a0 a1 a2 a3 a4 a5 : S} : dVal 6 (a0 :: a1 :: a2 :: a3 :: a4 :: a5 :: S.own d :: r) Q X = Q d (a0 :: a1 :: a2 :: a3 :: a4 :: a5 :: S.v d :: r) := rfl
theorem k_vo7 {a0 a1 a2 a3 a4 a5 a6 : S} : dVal 7 (a0 :: a1 :: a2 :: a3 :: a4 :: a5 :: a6 :: S.own d :: r) Q X = Q d (a0 :: a1 :: a2 :: a3 :: a4 :: a5 :: a6 :: S.v d :: r) := rfl
theorem k_vo8 {a0 a1 a2 a3 a4 a5 a6 a7 : S} : dVal 8 (a0 :: a1 :: a2 :: a3 :: a4 :: a5 :: a6 :: a7 :: S.own d :: r) Q X = Q d (a0 :: a1 :: a2 :: a3 :: a4 :: a5 :: a6 :: a7 :: S.v d :: r) := rfl
theorem k_vo9 {a0 a1 a2 a3 a4 a5 a6 a7 a8 : S} : dVal 9 (a0 :: a1 :: a2 :: a3 :: a4 :: a5 :: a6 :: a7 :: a8 :: S.own d :: r) Q X = Q d (a0 :: a1 :: a2 :: a3 :: a4 :: a5 :: a6 :: a7 :: a8 :: S.v d :: r) := rfl
theorem k_vo10 {a0 a1 a2 a3 a4 a5 a6 a7 a8 a9 : S} : dVal 10 (a0 :: a1 :: a2 :: a3 :: a4 :: a5 :: a6 :: a7 :: a8 :: a9 :: S.own d :: r) Q X = Q d (a0 :: a1 :: a2 :: a3 :: a4 :: a5 :: a6 :: a7 :: a8 :: a9 :: S.v d :: r) := rfl
theorem k_vo11 {a0 a1 a2 a3 a4 a5 a6 a7 a8 a9 a10 : S} : dVal 11 (a0 :: a1 :: a2 :: a3 :: a4 :: a5 :: a6 :: a7 :: a8 :: a9 :: a10 :: S.own d :: r) Q X = Q d (a0 :: a1 :: a2 :: a3 :: a4 :: a5 :: a6 :: a7 :: a8 :: a9 :: a10 :: S.v d :: r) := rfl
theorem k_vo12 {a0 a1 a2 a3 a4 a5 a6 a7 a8 a9 a10 a11 : S} : dVal 12 (a0 :: a1 :: a2 :: a3 :: a4 :: a5 :: a6 :: a7 :: a8 :: a9 :: a10 :: a11 :: S.own d :: r) Q X = Q d (a0 :: a1 :: a2 :: a3 :: a4 :: a5 :: a6 :: a7 :: a8 :: a9 :: a10 :: a11 :: S.v d :: r) := rfl
theorem k_vo13 {a0 a1 a2 a3 a4 a5 a6 a7 a8 a9 a10 a11 a12 : S} : dVal 13 (a0 :: a1 :: a2 :: a3 :: a4 :: a5 :: a6 :: a7 :: a8 :: a9 :: a10 :: a11 :: a12 :: S.own d :: r) Q X = Q d (a0 :: a1 :: a2 :: a3 :: a4 :: a5 :: a6 :: a7 :: a8 :: a9 :: a10 :: a11 :: a12 :: S.v d :: r) := rfl
theorem k_vo14 {a0 a1 a2 a3 a4 a5 a6 a7 a8 a9 a10 a11 a12 a13 : S} : dVal 14 (a0 :: a1 :: a2 :: a3 :: a4 :: a5 :: a6 :: a7 :: a8 :: a9 :: a10 :: a11 :: a12 :: a13 :: S.own d :: r) Q X = Q d (a0 :: a1 :: a2 :: a3 :: a4 :: a5 :: a6 :: a7 :: a8 :: a9 :: a10 :: a11 :: a12 :: a13 :: S.v d :: r) := rfl
theorem k_vo15 {a0 a1 a2 a3 a4 a5 a6 a7 a8 a9 a10 a11 a12 a13 a14 : S} : dVal 15 (a0 :: a1 :: a2 :: a3 :: a4 :: a5 :: a6 :: a7 :: a8 :: a9 :: a10 :: a11 :: a12 :: a13 :: a14 :: S.own d :: r) Q X = Q d (a0 :: a1 :: a2 :: a3 :: a4 :: a5 :: a6 :: a7 :: a8 :: a9 :: a10 :: a11 :: a12 :: a13 :: a14 :: S.v d :: r) := rfl
theorem k_vo16 {a0 a1 a2 a3 a4 a5 a6 a7 a8 a9 a10 a11 a12 a13 a14 a15 : S} : dVal 16 (a0 :: a1 :: a2 :: a3 :: a4 :: a5 :: a6 :: a7 :: a8 :: a9 :: a10 :: a11 :: a12 :: a13 :: a14 :: a15 :: S.own d :: r) Q X = Q d (a0 :: a1 :: a2 :: a3 :: a4 :: a5 :: a6 :: a7 :: a8 :: a9 :: a10 :: a11 :: a12 :: a13 :: a14 :: a15 :: S.v d :: r) := rfl
theorem k_vo17 {a0 a1 a2 a3 a4 a5 a6 a7 a8 a9 a10 a11 a12 a13 a14 a15 a16 : S} : dVal 17 (a0 :: a1 :: a2 :: a3 :: a4 :: a5 :: a6 :: a7 :: a8 :: a9 :: a10 :: a11 :: a12 :: a13 :: a14 :: a15 :: a16 :: S.own d :: r) Q X = Q d (a0 :: a1 :: a2 :: a3 :: a4 :: a5 :: a6 :: a7 :: a8 :: a9 :: a10 :: a11 :: a12 :: a13 :: a14 :: a15 :: a16 :: S.v d :: r) := rfl
theorem k_vo18 {a0 a1 a2 a3 a4 a5 a6 a7 a8 a9 a10 a11 a12 a13 a14 a15 a16 a17 : S} : dVal 18 (a0 :: a1 :: a2 :: a3 :: a4 :: a5 :: a6 :: a7 :: a8 :: a9 :: a10 :: a11 :: a12 :: a13 :: a14 :: a15 :: a16 :: a17 :: S.own d :: r) Q X = Q d (a0 :: a1 :: a2 :: a3 :: a4 :: a5 :: a6 :: a7 :: a8 :: a9 :: a10 :: a11 :: a12 :: a13 :: a14 :: a15 :: a16 :: a17 :: S.v d :: r) := rfl
theorem k_vo19 {a0 a1 a2 a3 a4 a5 a6 a7 a8 a9 a10 a11 a12 a13 a14 a15 a16 a17 a18 : S} : dVal 19 (a0 :: a1 :: a2 :: a3 :: a4 :: a5 :: a6 :: a7 :: a8 :: a9 :: a10 :: a11 :: a12 :: a13 :: a14 :: a15 :: a16 :: a17 :: a18 :: S.own d :: r) Q X = Q d (a0 :: a1 :: a2 :: a3 :: a4 :: a5 :: a6 :: a7 :: a8 :: a9 :: a10 :: a11 :: a12 :: a13 :: a14 :: a15 :: a16 :: a17 :: a18 :: S.v d :: r) := rfl
theorem k_vo20 {a0 a1 a2 a3 a4 a5 a6 a7 a8 a9 a10 a11 a12 a13 a14 a15 a16 a17 a18 a19 : S} : dVal 20 (a0 :: a1 :: a2 :: a3 :: a4 :: a5 :: a6 :: a7 :: a8 :: a9 :: a10 :: a11 :: a12 :: a13 :: a14 :: a15 :: a16 :: a17 :: a18 :: a19 :: S.own d :: r) Q X = Q d (a0 :: a1 :: a2 :: a3 :: a4 :: a5 :: a6 :: a7 :: a8 :: a9 :: a10 :: a11 :: a12 :: a13 :: a14 :: a15 :: a16 :: a17 :: a18 :: a19 :: S.v d :: r) := rfl
theorem k_vo21 {a0 a1 a2 a3 a4 a5 a6 a7 a8 a9 a10 a11 a12 a13 a14 a15 a16 a17 a18 a19 a20 : S} : dVal 21 (a0 :: a1 :: a2 :: a3 :: a4 :: a5 :: a6 :: a7 :: a8 :: a9 :: a10 :: a11 :: a12 :: a13 :: a14 :: a15 :: a16 :: a17 :: a18 :: a19 :: a20 :: S.own d :: r) Q X = Q d (a0 :: a1 :: a2 :: a3 :: a4 :: a5 :: a6 :: a7 :: a8 :: a9 :: a10 :: a11 :: a12 :: a13 :: a14 :: a15 :: a16 :: a17 :: a18 :: a19 :: a20 :: S.v d :: r) := rfl
theorem k_vo22 {a0 a1 a2 a3 a4 a5 a6 a7 a8 a9 a10 a11 a12 a13 a14 a15 a16 a17 a18 a19 a20 a21 : S} : dVal 22 (a0 :: a1 :: a2 :: a3 :: a4 :: a5 :: a6 :: a7 :: a8 :: a9 :: a10 :: a11 :: a12 :: a13 :: a14 :: a15 :: a16 :: a17 :: a18 :: a19 :: a20 :: a21 :: S.own d :: r) Q X = Q d (a0 :: a1 :: a2 :: a3 :: a4 :: a5 :: a6 :: a7 :: a8 :: a9 :: a10 :: a11 :: a12 :: a13 :: a14 :: a15 :: a16 :: a17 :: a18 :: a19 :: a20 :: a21 :: S.v d :: r) := rfl
theorem k_vo23 {a0 a1 a2 a3 a4 a5 a6 a7 a8 a9 a10 a11 a12 a13 a14 a15 a16 a17 a18 a19 a20 a21 a22 : S} : dVal 23 (a0 :: a1 :: a2 :: a3 :: a4 :: a5 :: a6 :: a7 :: a8 :: a9 :: a10 :: a11 :: a12 :: a13 :: a14 :: a15 :: a16 :: a17 :: a18 :: a19 :: a20 :: a21 :: a22 :: S.own d :: r) Q X = Q d (a0 :: a1 :: a2 :: a3 :: a4 :: a5 :: a6 :: a7 :: a8 :: a9 :: a10 :: a11 :: a12 :: a13 :: a14 :: a15 :: a16 :: a17 :: a18 :: a19 :: a20 :: a21 :: a22 :: S.v d :: r) := rfl
theorem k_vo24 {a0 a1 a2 a3 a4 a5 a6 a7 a8 a9 a10 a11 a12 a13 a14 a15 a16 a17 a18 a19 a20 a21 a22 a23 : S} : dVal 24 (a0 :: a1 :: a2 :: a3 :: a4 :: a5 :: a6 :: a7 :: a8 :: a9 :: a10 :: a11 :: a12 :: a13 :: a14 :: a15 :: a16 :: a17 :: a18 :: a19 :: a20 :: a21 :: a22 :: a23 :: S.own d :: r) Q X = Q d (a0 :: a1 :: a2 :: a3 :: a4 :: a5 :: a6 :: a7 :: a8 :: a9 :: a10 :: a11 :: a12 :: a13 :: a14 :: a15 :: a16 :: a17 :: a18 :: a19 :: a20 :: a21 :: a22 :: a23 :: S.v d :: r) := rfl
theorem k_vo25 {a0 a1 a2 a3 a4 a5 a6 a7 a8 a9 a10 a11 a12 a13 a14 a15 a16 a17 a18 a19 a20 a21 a22 a23 a24 : S} : dVal 25 (a0 :: a1 :: a2 :: a3 :: a4 :: a5 :: a6 :: a7 :: a8 :: a9 :: a10 :: a11 :: a12 :: a13 :: a14 :: a15 :: a16 :: a17 :: a18 :: a19 :: a20 :: a21 :: a22 :: a23 :: a24 :: S.own d :: r) Q X = Q d (a0 :: a1 :: a2 :: a3 :: a4 :: a5 :: a6 :: a7 :: a8 :: a9 :: a10 :: a11 :: a12 :: a13 :: a14 :: a15 :: a16 :: a17 :: a18 :: a19 :: a20 :: a21 :: a22 :: a23 :: a24 :: S.v d :: r) := rfl
theorem k_sk0 : setK (t :: r) 0 s k = k (s :: r) := rfl
theorem k_sk1 {a0 : S} : setK (a0 :: t :: r) 1 s k = k (a0 :: s :: r) := rfl
theorem k_sk2 {a0 a1 : S} : setK (a0 :: a1 :: t :: r) 2 s k = k (a0 :: a1 :: s :: r) := rfl
theorem k_sk3 {a0 a1 a2 : S} : setK (a0 :: a1 :: a2 :: t :: r) 3 s k = k (a0 :: a1 :: a2 :: s :: r) := rfl
theorem k_sk4 {a0 a1 a2 a3 : S} : setK (a0 :: a1 :: a2 :: a3 :: t :: r) 4 s k = k (a0 :: a1 :: a2 :: a3 :: s :: r) := rfl
theorem k_sk5 {a0 a1 a2 a3 a4 : S} : setK (a0 :: a1 :: a2 :: a3 :: a4 :: t :: r) 5 s k = k (a0 :: a1 :: a2 :: a3 :: a4 :: s :: r) := rfl
theorem k_sk6 {a0 a1 a2 a3 a4 a5 : S} : setK (a0 :: a1 :: a2 :: a3 :: a4 :: a5 :: t :: r) 6 s k = k (a0 :: a1 :: a2 :: a3 :: a4 :: a5 :: s :: r) := rfl
theorem k_sk7 {a0 a1 a2 a3 a4 a5 a6 : S} : setK (a0 :: a1 :: a2 :: a3 :: a4 :: a5 :: a6 :: t :: r) 7 s k = k (a0 :: a1 :: a2 :: a3 :: a4 :: a5 :: a6 :: s :: r) := rfl
theorem k_sk8 {a0 a1 a2 a3 a4 a5 a6 a7 : S} : setK (a0 :: a1 :: a2 :: a3 :: a4 :: a5 :: a6 :: a7 :: t :: r) 8 s k = k (a0 :: a1 :: a2 :: a3 :: a4 :: a5 :: a6 :: a7 :: s :: r) := rfl
theorem k_sk9 {a0 a1 a2 a3 a4 a5 a6 a7 a8 : S} : setK (a0 :: a1 :: a2 :: a3 :: a4 :: a5 :: a6 :: a7 :: a8 :: t :: r) 9 s k = k (a0 :: a1 :: a2 :: a3 :: a4 :: a5 :: a6 :: a7 :: a8 :: s :: r) := rfl
theorem k_sk10 {a0 a1 a2 a3 a4 a5 a6 a7 a8 a9 : S} : setK (a0 :: a1 :: a2 :: a3 :: a4 :: a5 :: a6 :: a7 :: a8 :: a9 :: t :: r) 10 s k = k (a0 :: a1 :: a2 :: a3 :: a4 :: a5 :: a6 :: a7 :: a8 :: a9 :: s :: r) := rfl
theorem k_sk11 {a0 a1 a2 a3 a4 a5 a6 a7 a8 a9 a10 : S} : setK (a0 :: a1 :: a2 :: a3 :: a4 :: a5 :: a6 :: a7 :: a8 :: a9 :: a10 :: t :: r) 11 s k = k (a0 :: a1 :: a2 :: a3 :: a4 :: a5 :: a6 :: a7 :: a8 :: a9 :: a10 :: s :: r) := rfl
theorem k_sk12 {a0 a1 a2 a3 a4 a5 a6 a7 a8 a9 a10 a11 : S} : setK (a0 :: a1 :: a2 :: a3 :: a4 :: a5 :: a6 :: a7 :: a8 :: a9 :: a10 :: a11 :: t :: r) 12 s k = k (a0 :: a1 :: a2 :: a3 :: a4 :: a5 :: a6 :: a7 :: a8 :: a9 :: a10 :: a11 :: s :: r) := rfl
theorem k_sk13 {a0 a1 a2 a3 a4 a5 a6 a7 a8 a9 a10 a11 a12 : S} : setK (a0 :: a1 :: a2 :: a3 :: a4 :: a5 :: a6 :: a7 :: a8 :: a9 :: a10 :: a11 :: a12 :: t :: r) 13 s k = k (a0 :: a1 :: a2 :: a3 :: a4 :: a5 :: a6 :: a7 :: a8 :: a9 :: a10 :: a11 :: a12 :: s :: r) := rfl
theorem k_sk14 {a0 a1 a2 a3 a4 a5 a6 a7 a8 a9 a10 a11 a12 a13 : S} : setK (a0 :: a1 :: a2 :: a3 :: a4 :: a5 :: a6 :: a7 :: a8 :: a9 :: a10 :: a11 :: a12 :: a13 :: t :: r) 14 s k = k (a0 :: a1 :: a2 :: a3 :: a4 :: a5 :: a6 :: a7 :: a8 :: a9 :: a10 :: a11 :: a12 :: a13 :: s :: r) := rfl
theorem k_sk15 {a0 a1 a2 a3 a4 a5 a6 a7 a8 a9 a10 a11 a12 a13 a14 : S} : setK (a0 :: a1 :: a2 :: a3 :: a4 :: a5 :: a6 :: a7 :: a8 :: a9 :: a10 :: a11 :: a12 :: a13 :: a14 :: t :: r) 15 s k = k (a0 :: a1 :: a2 :: a3 :: a4 :: a5 :: a6 :: a7 :: a8 :: a9 :: a10 :: a11 :: a12 :: a13 :: a14 :: s :: r) := rfl
theorem k_sk16 {a0 a1 a2 a3 a4 a5 a6 a7 a8 a9 a10 a11 a12 a13 a14 a15 : S} : setK (a0 :: a1 :: a2 :: a3 :: a4 :: a5 :: a6 :: a7 :: a8 :: a9 :: a10 :: a11 :: a12 :: a13 :: a14 :: a15 :: t :: r) 16 s k = k (a0 :: a1 :: a2 :: a3 :: a4 :: a5 :: a6 :: a7 :: a8 :: a9 :: a10 :: a11 :: a12 :: a13 :: a14 :: a15 :: s :: r) := rfl
theorem k_sk17 {a0 a1 a2 a3 a4 a5 a6 a7 a8 a9 a10 a11 a12 a13 a14 a15 a16 : S} : setK (a0 :: a1 :: a2 :: a3 :: a4 :: a5 :: a6 :: a7 :: a8 :: a9 :: a10 :: a11 :: a12 :: a13 :: a14 :: a15 :: a16 :: t :: r) 17 s k = k (a0 :: a1 :: a2 :: a3 :: a4 :: a5 :: a6 :: a7 :: a8 :: a9 :: a10 :: a11 :: a12 :: a13 :: a14 :: a15 :: a16 :: s :: r) := rfl
theorem k_sk18 {a0 a1 a2 a3 a4 a5 a6 a7 a8 a9 a10 a11 a12 a13 a14 a15 a16 a17 : S} : setK (a0 :: a1 :: a2 :: a3 :: a4 :: a5 :: a6 :: a7 :: a8 :: a9 :: a10 :: a11 :: a12 :: a13 :: a14 :: a15 :: a16 :: a17 :: t :: r) 18 s k = k (a0 :: a1 :: a2 :: a3 :: a4 :: a5 :: a6 :: a7 :: a8 :: a9 :: a10 :: a11 :: a12 :: a13 :: a14 :: a15 :: a16 :: a17 :: s :: r) := rfl
theorem k_sk19 {a0 a1 a2 a3 a4 a5 a6 a7 a8 a9 a10 a11 a12 a13 a14 a15 a16 a17 a18 : S} : setK (a0 :: a1 :: a2 :: a3 :: a4 :: a5 :: a6 :: a7 :: a8 :: a9 :: a10 :: a11 :: a12 :: a13 :: a14 :: a15 :: a16 :: a17 :: a18 :: t :: r) 19 s k = k (a0 :: a1 :: a2 :: a3 :: a4 :: a5 :: a6 :: a7 :: a8 :: a9 :: a10 :: a11 :: a12 :: a13 :: a14 :: a15 :: a16 :: a17 :: a18 :: s :: r) := rfl
theorem k_sk20 {a0 a1 a2 a3 a4 a5 a6 a7 a8 a9 a10 a11 a12 a13 a14 a15 a16 a17 a18 a19 : S} : setK (a0 :: a1 :: a2 :: a3 :: a4 :: a5 :: a6 :: a7 :: a8 :: a9 :: a10 :: a11 :: a12 :: a13 :: a14 :: a15 :: a16 :: a17 :: a18 :: a19 :: t :: r) 20 s k = k (a0 :: a1 :: a2 :: a3 :: a4 :: a5 :: a6 :: a7 :: a8 :: a9 :: a10 :: a11 :: a12 :: a13 :: a14 :: a15 :: a16 :: a17 :: a18 :: a19 :: s :: r) := rfl
theorem k_sk21 {a0 a1 a2 a3 a4 a5 a6 a7 a8 a9 a10 a11 a12 a13 a14 a15 a16 a17 a18 a19 a20 : S} : setK (a0 :: a1 :: a2 :: a3 :: a4 :: a5 :: a6 :: a7 :: a8 :: a9 :: a10 :: a11 :: a12 :: a13 :: a14 :: a15 :: a16 :: a17 :: a18 :: a19 :: a20 :: t :: r) 21 s k = k (a0 :: a1 :: a2 :: a3 :: a4 :: a5 :: a6 :: a7 :: a8 :: a9 :: a10 :: a11 :: a12 :: a13 :: a14 :: a15 :: a16 :: a17 :: a18 :: a19 :: a20 :: s :: r) := rfl
theorem k_sk22 {a0 a1 a2 a3 a4 a5 a6 a7 a8 a9 a10 a11 a12 a13 a14 a15 a16 a17 a18 a19 a20 a21 : S} : setK (a0 :: a1 :: a2 :: a3 :: a4 :: a5 :: a6 :: a7 :: a8 :: a9 :: a10 :: a11 :: a12 :: a13 :: a14 :: a15 :: a16 :: a17 :: a18 :: a19 :: a20 :: a21 :: t :: r) 22 s k = k (a0 :: a1 :: a2 :: a3 :: a4 :: a5 :: a6 :: a7 :: a8 :: a9 :: a10 :: a11 :: a12 :: a13 :: a14 :: a15 :: a16 :: a17 :: a18 :: a19 :: a20 :: a21 :: s :: r) := rfl
theorem k_sk23 {a0 a1 a2 a3 a4 a5 a6 a7 a8 a9 a10 a11 a12 a13 a14 a15 a16 a17 a18 a19 a20 a21 a22 : S} : setK (a0 :: a1 :: a2 :: a3 :: a4 :: a5 :: a6 :: a7 :: a8 :: a9 :: a10 :: a11 :: a12 :: a13 :: a14 :: a15 :: a16 :: a17 :: a18 :: a19 :: a20 :: a21 :: a22 :: t :: r) 23 s k = k (a0 :: a1 :: a2 :: a3 :: a4 :: a5 :: a6 :: a7 :: a8 :: a9 :: a10 :: a11 :: a12 :: a13 :: a14 :: a15 :: a16 :: a17 :: a18 :: a19 :: a20 :: a21 :: a22 :: s :: r) := rfl
theorem k_sk24 {a0 a1 a2 a3 a4 a5 a6 a7 a8 a9 a10 a11 a12 a13 a14 a15 a16 a17 a18 a19 a20 a21 a22 a23 : S} : setK (a0 :: a1 :: a2 :: a3 :: a4 :: a5 :: a6 :: a7 :: a8 :: a9 :: a10 :: a11 :: a12 :: a13 :: a14 :: a15 :: a16 :: a17 :: a18 :: a19 :: a20 :: a21 :: a22 :: a23 :: t :: r) 24 s k = k (a0 :: a1 :: a2 :: a3 :: a4 :: a5 :: a6 :: a7 :: a8 :: a9 :: a10 :: a11 :: a12 :: a13 :: a14 :: a15 :: a16 :: a17 :: a18 :: a19 :: a20 :: a21 :: a22 :: a23 :: s :: r) := rfl
theorem k_sk25 {a0 a1 a2 a3 a4 a5 a6 a7 a8 a9 a10 a11 a12 a13 a14 a15 a16 a17 a18 a19 a20 a21 a22 a23 a24 : S} : setK (a0 :: a1 :: a2 :: a3 :: a4 :: a5 :: a6 :: a7 :: a8 :: a9 :: a10 :: a11 :: a12 :: a13 :: a14 :: a15 :: a16 :: a17 :: a18 :: a19 :: a20 :: a21 :: a22 :: a23 :: a24 :: t :: r) 25 s k = k (a0 :: a1 :: a2 :: a3 :: a4 :: a5 :: a6 :: a7 :: a8 :: a9 :: a10 :: a11 :: a12 :: a13 :: a14 :: a15 :: a16 :: a17 :: a18 :: a19 :: a20 :: a21 :: a22 :: a23 :: a24 :: s :: r) := rfl
theorem k_rv0 : rdK (S.v d :: r) 0 kd = kd d := rdK_of rfl
theorem k_rv1 {a0 : S} : rdK (a0 :: S.v d :: r) 1 kd = kd d := rdK_of rfl
theorem k_rv2 {a0 a1 : S} : rdK (a0 :: a1 :: S.v d :: r) 2 kd = kd d := rdK_of rfl
theorem k_rv3 {a0 a1 a2 : S} : rdK (a0 :: a1 :: a2 :: S.v d :: r) 3 kd = kd d := rdK_of rfl
theorem k_rv4 {a0 a1 a2 a3 : S} : rdK (a0 :: a1 :: a2 :: a3 :: S.v d :: r) 4 kd = kd d := rdK_of rfl
theorem k_rv5 {a0 a1 a2 a3 a4 : S} : rdK (a0 :: a1 :: a2 :: a3 :: a4 :: S.v d :: r) 5 kd = kd d := rdK_of rfl
theorem k_rv6 {a0 a1 a2 a3 a4 a5 : S} : rdK (a0 :: a1 :: a2 :: a3 :: a4 :: a5 :: S.v d :: r) 6 kd = kd d := rdK_of rfl
theorem k_rv7 {a0 a1 a2 a3 a4 a5 a6 : S} : rdK (a0 :: a1 :: a2 :: a3 :: a4 :: a5 :: a6 :: S.v d :: r) 7 kd = kd d := rdK_of rfl
theorem k_rv8 {a0 a1 a2 a3 a4 a5 a6 a7 : S} : rdK (a0 :: a1 :: a2 :: a3 :: a4 :: a5 :: a6 :: a7 :: S.v d :: r) 8 kd = kd d := rdK_of rfl
theorem k_rv9 {a0 a1 a2 a3 a4 a5 a6 a7 a8 : S} : rdK (a0 :: a1 :: a2 :: a3 :: a4 :: a5 :: a6 :: a7 :: a8 :: S.v d :: r) 9 kd = kd d := rdK_of rfl
theorem k_rv10 {a0 a1 a2 a3 a4 a5 a6 a7 a8 a9 : S} : rdK (a0 :: a1 :: a2 :: a3 :: a4 :: a5 :: a6 :: a7 :: a8 :: a9 :: S.v d :: r) 10 kd = kd d := rdK_of rfl
theorem k_rv11 {a0 a1 a2 a3 a4 a5 a6 a7 a8 a9 a10 : S} : rdK (a0 :: a1 :: a2 :: a3 :: a4 :: a5 :: a6 :: a7 :: a8 :: a9 :: a10 :: S.v d :: r) 11 kd = kd d := rdK_of rfl
theorem k_rv12 {a0 a1 a2 a3 a4 a5 a6 a7 a8 a9 a10 a11 : S} : rdK (a0 :: a1 :: a2 :: a3 :: a4 :: a5 :: a6 :: a7 :: a8 :: a9 :: a10 :: a11 :: S.v d :: r) 12 kd = kd d := rdK_of rfl
theorem k_rv13 {a0 a1 a2 a3 a4 a5 a6 a7 a8 a9 a10 a11 a12 : S} : rdK (a0 :: a1 :: a2 :: a3 :: a4 :: a5 :: a6 :: a7 :: a8 :: a9 :: a10 :: a11 :: a12 :: S.v d :: r) 13 kd = kd d := rdK_of rfl
theorem k_rv14 {a0 a1 a2 a3 a4 a5 a6 a7 a8 a9 a10 a11 a12 a13 : S} : rdK (a0 :: a1 :: a2 :: a3 :: a4 :: a5 :: a6 :: a7 :: a8 :: a9 :: a10 :: a11 :: a12 :: a13 :: S.v d :: r) 14 kd = kd d := rdK_of rfl
theorem k_rv15 {a0 a1 a2 a3 a4 a5 a6 a7 a8 a9 a10 a11 a12 a13 a14 : S} : rdK (a0 :: a1 :: a2 :: a3 :: a4 :: a5 :: a6 :: a7 :: a8 :: a9 :: a10 :: a11 :: a12 :: a13 :: a14 :: S.v d :: r) 15 kd = kd d := rdK_of rfl
theorem k_rv16 {a0 a1 a2 a3 a4 a5 a6 a7 a8 a9 a10 a11 a12 a13 a14 a15 : S} : rdK (a0 :: a1 :: a2 :: a3 :: a4 :: a5 :: a6 :: a7 :: a8 :: a9 :: a10 :: a11 :: a12 :: a13 :: a14 :: a15 :: S.v d :: r) 16 kd = kd d := rdK_of rfl
theorem k_rv17 {a0 a1 a2 a3 a4 a5 a6 a7 a8 a9 a10 a11 a12 a13 a14 a15 a16 : S} : rdK (a0 :: a1 :: a2 :: a3 :: a4 :: a5 :: a6 :: a7 :: a8 :: a9 :: a10 :: a11 :: a12 :: a13 :: a14 :: a15 :: a16 :: S.v d :: r) 17 kd = kd d := rdK_of rfl
theorem k_rv18 {a0 a1 a2 a3 a4 a5 a6 a7 a8 a9 a10 a11 a12 a13 a14 a15 a16 a17 : S} : rdK (a0 :: a1 :: a2 :: a3 :: a4 :: a5 :: a6 :: a7 :: a8 :: a9 :: a10 :: a11 :: a12 :: a13 :: a14 :: a15 :: a16 :: a17 :: S.v d :: r) 18 kd = kd d := rdK_of rfl
theorem k_rv19 {a0 a1 a2 a3 a4 a5 a6 a7 a8 a9 a10 a11 a12 a13 a14 a15 a16 a17 a18 : S} : rdK (a0 :: a1 :: a2 :: a3 :: a4 :: a5 :: a6 :: a7 :: a8 :: a9 :: a10 :: a11 :: a12 :: a13 :: a14 :: a15 :: a16 :: a17 :: a18 :: S.v d :: r) 19 kd = kd d := rdK_of rfl
theorem k_rv20 {a0 a1 a2 a3 a4 a5 a6 a7 a8 a9 a10 a11 a12 a13 a14 a15 a16 a17 a18 a19 : S} : rdK (a0 :: a1 :: a2 :: a3 :: a4 :: a5 :: a6 :: a7 :: a8 :: a9 :: a10 :: a11 :: a12 :: a13 :: a14 :: a15 :: a16 :: a17 :: a18 :: a19 :: S.v d :: r) 20 kd = kd d := rdK_of rfl
theorem k_rv21 {a0 a1 a2 a3 a4 a5 a6 a7 a8 a9 a10 a11 a12 a13 a14 a15 a16 a17 a18 a19 a20 : S} : rdK (a0 :: a1 :: a2 :: a3 :: a4 :: a5 :: a6 :: a7 :: a8 :: a9 :: a10 :: a11 :: a12 :: a13 :: a14 :: a15 :: a16 :: a17 :: a18 :: a19 :: a20 :: S.v d :: r) 21 kd = kd d := rdK_of rfl
theorem k_rv22 {a0 a1 a2 a3 a4 a5 a6 a7 a8 a9 a10 a11 a12 a13 a14 a15 a16 a17 a18 a19 a20 a21 : S} : rdK (a0 :: a1 :: a2 :: a3 :: a4 :: a5 :: a6 :: a7 :: a8 :: a9 :: a10 :: a11 :: a12 :: a13 :: a14 :: a15 :: a16 :: a17 :: a18 :: a19 :: a20 :: a21 :: S.v d :: r) 22 kd = kd d := rdK_of rfl
theorem k_rv23 {a0 a1 a2 a3 a4 a5 a6 a7 a8 a9 a10 a11 a12 a13 a14 a15 a16 a17 a18 a19 a20 a21 a22 : S} : rdK (a0 :: a1 :: a2 :: a3 :: a4 :: a5 :: a6 :: a7 :: a8 :: a9 :: a10 :: a11 :: a12 :: a13 :: a14 :: a15 :: a16 :: a17 :: a18 :: a19 :: a20 :: a21 :: a22 :: S.v d :: r) 23 kd = kd d := rdK_of rfl
theorem k_rv24 {a0 a1 a2 a3 a4 a5 a6 a7 a8 a9 a10 a11 a12 a13 a14 a15 a16 a17 a18 a19 a20 a21 a22 a23 : S} : rdK (a0 :: a1 :: a2 :: a3 :: a4 :: a5 :: a6 :: a7 :: a8 :: a9 :: a10 :: a11 :: a12 :: a13 :: a14 :: a15 :: a16 :: a17 :: a18 :: a19 :: a20 :: a21 :: a22 :: a23 :: S.v d :: r) 24 kd = kd d := rdK_of rfl
theorem k_rv25 {a0 a1 a2 a3 a4 a5 a6 a7 a8 a9 a10 a11 a12 a13 a14 a15 a16 a17 a18 a19 a20 a21 a22 a23 a24 : S} : rdK (a0 :: a1 :: a2 :: a3 :: a4 :: a5 :: a6 :: a7 :: a8 :: a9 :: a10 :: a11 :: a12 :: a13 :: a14 :: a15 :: a16 :: a17 :: a18 :: a19 :: a20 :: a21 :: a22 :: a23 :: a24 :: S.v d :: r) 25 kd = kd d := rdK_of rfl
theorem k_ro0 : rdK (S.own d :: r) 0 kd = kd d := rdK_of rfl
theorem k_ro1 {a0 : S} : rdK (a0 :: S.own d :: r) 1 kd = kd d := rdK_of rfl
theorem k_ro2 {a0 a1 : S} : rdK (a0 :: a1 :: S.own d :: r) 2 kd = kd d := rdK_of rfl
theorem k_ro3 {a0 a1 a2 : S} : rdK (a0 :: a1 :: a2 :: S.own d :: r) 3 kd = kd d := rdK_of rfl
theorem k_ro4 {a0 a1 a2 a3 : S} : rdK (a0 :: a1 :: a2 :: a3 :: S.own d :: r) 4 kd = kd d := rdK_of rfl
theorem k_ro5 {a0 a1 a2 a3 a4 : S} : rdK (a0 :: a1 :: a2 :: a3 :: a4 :: S.own d :: r) 5 kd = kd d := rdK_of rfl
theorem k_ro6 {a0 a1 a2 a3 a4 a5 : S} : rdK (a0 :: a1 :: a2 :: a3 :: a4 :: a5 :: S.own d :: r) 6 kd = kd d := rdK_of rfl
theorem k_ro7 {a0 a1 a2 a3 a4 a5 a6 : S} : rdK (a0 :: a1 :: a2 :: a3 :: a4 :: a5 :: a6 :: S.own d :: r) 7 kd = kd d := rdK_of rfl
theorem k_ro8 {a0 a1 a2 a3 a4 a5 a6 a7 : S} : rdK (a0 :: a1 :: a2 :: a3 :: a4 :: a5 :: a6 :: a7 :: S.own d :: r) 8 kd = kd d := rdK_of rfl
theorem k_ro9 {a0 a1 a2 a3 a4 a5 a6 a7 a8 : S} : rdK (a0 :: a1 :: a2 :: a3 :: a4 :: a5 :: a6 :: a7 :: a8 :: S.own d :: r) 9 kd = kd d := rdK_of rfl
theorem k_ro10 {a0 a1 a2 a3 a4 a5 a6 a7 a8 a9 : S} : rdK (a0 :: a1 :: a2 :: a3 :: a4 :: a5 :: a6 :: a7 :: a8 :: a9 :: S.own d :: r) 10 kd = kd d := rdK_of rfl
theorem k_ro11 {a0 a1 a2 a3 a4 a5 a6 a7 a8 a9 a10 : S} : rdK (a0 :: a1 :: a2 :: a3 :: a4 :: a5 :: a6 :: a7 :: a8 :: a9 :: a10 :: S.own d :: r) 11 kd = kd d := rdK_of rfl
theorem k_ro12 {a0 a1 a2 a3 a4 a5 a6 a7 a8 a9 a10 a11 : S} : rdK (a0 :: a1 :: a2 :: a3 :: a4 :: a5 :: a6 :: a7 :: a8 :: a9 :: a10 :: a11 :: S.own d :: r) 12 kd = kd d := rdK_of rfl
theorem k_ro13 {a0 a1 a2 a3 a4 a5 a6 a7 a8 a9 a10 a11 a12 : S} : rdK (a0 :: a1 :: a2 :: a3 :: a4 :: a5 :: a6 :: a7 :: a8 :: a9 :: a10 :: a11 :: a12 :: S.own d :: r) 13 kd = kd d := rdK_of rfl
theorem k_ro14 {a0 a1 a2 a3 a4 a5 a6 a7 a8 a9 a10 a11 a12 a13 : S} : rdK (a0 :: a1 :: a2 :: a3 :: a4 :: a5 :: a6 :: a7 :: a8 :: a9 :: a10 :: a11 :: a12 :: a13 :: S.own d :: r) 14 kd = kd d := rdK_of rfl
theorem k_ro15 {a0 a1 a2 a3 a4 a5 a6 a7 a8 a9 a10 a11 a12 a13 a14 : S} : rdK (a0 :: a1 :: a2 :: a3 :: a4 :: a5 :: a6 :: a7 :: a8 :: a9 :: a10 :: a11 :: a12 :: a13 :: a14 :: S.own d :: r) 15 kd = kd d := rdK_of rfl
theorem k_ro16 {a0 a1 a2 a3 a4 a5 a6 a7 a8 a9 a10 a11 a12 a13 a14 a15 : S} : rdK (a0 :: a1 :: a2 :: a3 :: a4 :: a5 :: a6 :: a7 :: a8 :: a9 :: a10 :: a11 :: a12 :: a13 :: a14 :: a15 :: S.own d :: r) 16 kd = kd d := rdK_of rfl
theorem k_ro17 {a0 a1 a2 a3 a4 a5 a6 a7 a8 a9 a10 a11 a12 a13 a14 a15 a16 : S} : rdK (a0 :: a1 :: a2 :: a3 :: a4 :: a5 :: a6 :: a7 :: a8 :: a9 :: a10 :: a11 :: a12 :: a13 :: a14 :: a15 :: a16 :: S.own d :: r) 17 kd = kd d := rdK_of rfl
theorem k_ro18 {a0 a1 a2 a3 a4 a5 a6 a7 a8 a9 a10 a11 a12 a13 a14 a15 a16 a17 : S} : rdK (a0 :: a1 :: a2 :: a3 :: a4 :: a5 :: a6 :: a7 :: a8 :: a9 :: a10 :: a11 :: a12 :: a13 :: a14 :: a15 :: a16 :: a17 :: S.own d :: r) 18 kd = kd d := rdK_of rfl
theorem k_ro19 {a0 a1 a2 a3 a4 a5 a6 a7 a8 a9 a10 a11 a12 a13 a14 a15 a16 a17 a18 : S} : rdK (a0 :: a1 :: a2 :: a3 :: a4 :: a5 :: a6 :: a7 :: a8 :: a9 :: a10 :: a11 :: a12 :: a13 :: a14 :: a15 :: a16 :: a17 :: a18 :: S.own d :: r) 19 kd = kd d := rdK_of rfl
theorem k_ro20 {a0 a1 a2 a3 a4 a5 a6 a7 a8 a9 a10 a11 a12 a13 a14 a15 a16 a17 a18 a19 : S} : rdK (a0 :: a1 :: a2 :: a3 :: a4 :: a5 :: a6 :: a7 :: a8 :: a9 :: a10 :: a11 :: a12 :: a13 :: a14 :: a15 :: a16 :: a17 :: a18 :: a19 :: S.own d :: r) 20 kd = kd d := rdK_of rfl
theorem k_ro21 {a0 a1 a2 a3 a4 a5 a6 a7 a8 a9 a10 a11 a12 a13 a14 a15 a16 a17 a18 a19 a20 : S} : rdK (a0 :: a1 :: a2 :: a3 :: a4 :: a5 :: a6 :: a7 :: a8 :: a9 :: a10 :: a11 :: a12 :: a13 :: a14 :: a15 :: a16 :: a17 :: a18 :: a19 :: a20 :: S.own d :: r) 21 kd = kd d := rdK_of rfl
theorem k_ro22 {a0 a1 a2 a3 a4 a5 a6 a7 a8 a9 a10 a11 a12 a13 a14 a15 a16 a17 a18 a19 a20 a21 : S} : rdK (a0 :: a1 :: a2 :: a3 :: a4 :: a5 :: a6 :: a7 :: a8 :: a9 :: a10 :: a11 :: a12 :: a13 :: a14 :: a15 :: a16 :: a17 :: a18 :: a19 :: a20 :: a21 :: S.own d :: r) 22 kd = kd d := rdK_of rfl
theorem k_ro23 {a0 a1 a2 a3 a4 a5 a6 a7 a8 a9 a10 a11 a12 a13 a14 a15 a16 a17 a18 a19 a20 a21 a22 : S} : rdK (a0 :: a1 :: a2 :: a3 :: a4 :: a5 :: a6 :: a7 :: a8 :: a9 :: a10 :: a11 :: a12 :: a13 :: a14 :: a15 :: a16 :: a17 :: a18 :: a19 :: a20 :: a21 :: a22 :: S.own d :: r) 23 kd = kd d := rdK_of rfl
theorem k_ro24 {a0 a1 a2 a3 a4 a5 a6 a7 a8 a9 a10 a11 a12 a13 a14 a15 a16 a17 a18 a19 a20 a21 a22 a23 : S} : rdK (a0 :: a1 :: a2 :: a3 :: a4 :: a5 :: a6 :: a7 :: a8 :: a9 :: a10 :: a11 :: a12 :: a13 :: a14 :: a15 :: a16 :: a17 :: a18 :: a19 :: a20 :: a21 :: a22 :: a23 :: S.own d :: r) 24 kd = kd d := rdK_of rfl
theorem k_ro25 {a0 a1 a2 a3 a4 a5 a6 a7 a8 a9 a10 a11 a12 a13 a14 a15 a16 a17 a18 a19 a20 a21 a22 a23 a24 : S} : rdK (a0 :: a1 :: a2 :: a3 :: a4 :: a5 :: a6 :: a7 :: a8 :: a9 :: a10 :: a11 :: a12 :: a13 :: a14 :: a15 :: a16 :: a17 :: a18 :: a19 :: a20 :: a21 :: a22 :: a23 :: a24 :: S.own d :: r) 25 kd = kd d := rdK_of rfl
theorem k_rl0 : rdK (S.lent d :: r) 0 kd = kd d := rdK_of rfl
theorem k_rl1 {a0 : S} : rdK (a0 :: S.lent d :: r) 1 kd = kd d := rdK_of rfl
theorem k_rl2 {a0 a1 : S} : rdK (a0 :: a1 :: S.lent d :: r) 2 kd = kd d := rdK_of rfl
theorem k_rl3 {a0 a1 a2 : S} : rdK (a0 :: a1 :: a2 :: S.lent d :: r) 3 kd = kd d := rdK_of rfl
theorem k_rl4 {a0 a1 a2 a3 : S} : rdK (a0 :: a1 :: a2 :: a3 :: S.lent d :: r) 4 kd = kd d := rdK_of rfl
theorem k_rl5 {a0 a1 a2 a3 a4 : S} : rdK (a0 :: a1 :: a2 :: a3 :: a4 :: S.lent d :: r) 5 kd = kd d := rdK_of rfl
theorem k_rl6 {a0 a1 a2 a3 a4 a5 : S} : rdK (a0 :: a1 :: a2 :: a3 :: a4 :: a5 :: S.lent d :: r) 6 kd = kd d := rdK_of rfl
theorem k_rl7 {a0 a1 a2 a3 a4 a5 a6 : S} : rdK (a0 :: a1 :: a2 :: a3 :: a4 :: a5 :: a6 :: S.lent d :: r) 7 kd = kd d := rdK_of rfl
theorem k_rl8 {a0 a1 a2 a3 a4 a5 a6 a7 : S} : rdK (a0 :: a1 :: a2 :: a3 :: a4 :: a5 :: a6 :: a7 :: S.lent d :: r) 8 kd = kd d := rdK_of rfl
theorem k_rl9 {a0 a1 a2 a3 a4 a5 a6 a7 a8 : S} : rdK (a0 :: a1 :: a2 :: a3 :: a4 :: a5 :: a6 :: a7 :: a8 :: S.lent d :: r) 9 kd = kd d := rdK_of rfl
theorem k_rl10 {a0 a1 a2 a3 a4 a5 a6 a7 a8 a9 : S} : rdK (a0 :: a1 :: a2 :: a3 :: a4 :: a5 :: a6 :: a7 :: a8 :: a9 :: S.lent d :: r) 10 kd = kd d := rdK_of rfl
theorem k_rl11 {a0 a1 a2 a3 a4 a5 a6 a7 a8 a9 a10 : S} : rdK (a0 :: a1 :: a2 :: a3 :: a4 :: a5 :: a6 :: a7 :: a8 :: a9 :: a10 :: S.lent d :: r) 11 kd = kd d := rdK_of rfl
theorem k_rl12 {a0 a1 a2 a3 a4 a5 a6 a7 a8 a9 a10 a11 : S} : rdK (a0 :: a1 :: a2 :: a3 :: a4 :: a5 :: a6 :: a7 :: a8 :: a9 :: a10 :: a11 :: S.lent d :: r) 12 kd = kd d := rdK_of rfl
theorem k_rl13 {a0 a1 a2 a3 a4 a5 a6 a7 a8 a9 a10 a11 a12 : S} : rdK (a0 :: a1 :: a2 :: a3 :: a4 :: a5 :: a6 :: a7 :: a8 :: a9 :: a10 :: a11 :: a12 :: S.lent d :: r) 13 kd = kd d := rdK_of rfl
theorem k_rl14 {a0 a1 a2 a3 a4 a5 a6 a7 a8 a9 a10 a11 a12 a13 : S} : rdK (a0 :: a1 :: a2 :: a3 :: a4 :: a5 :: a6 :: a7 :: a8 :: a9 :: a10 :: a11 :: a12 :: a13 :: S.lent d :: r) 14 kd = kd d := rdK_of rfl
theorem k_rl15 {a0 a1 a2 a3 a4 a5 a6 a7 a8 a9 a10 a11 a12 a13 a14 : S} : rdK (a0 :: a1 :: a2 :: a3 :: a4 :: a5 :: a6 :: a7 :: a8 :: a9 :: a10 :: a11 :: a12 :: a13 :: a14 :: S.lent d :: r) 15 kd = kd d := rdK_of rfl
theorem k_rl16 {a0 a1 a2 a3 a4 a5 a6 a7 a8 a9 a10 a11 a12 a13 a14 a15 : S} : rdK (a0 :: a1 :: a2 :: a3 :: a4 :: a5 :: a6 :: a7 :: a8 :: a9 :: a10 :: a11 :: a12 :: a13 :: a14 :: a15 :: S.lent d :: r) 16 kd = kd d := rdK_of rfl
theorem k_rl17 {a0 a1 a2 a3 a4 a5 a6 a7 a8 a9 a10 a11 a12 a13 a14 a15 a16 : S} : rdK (a0 :: a1 :: a2 :: a3 :: a4 :: a5 :: a6 :: a7 :: a8 :: a9 :: a10 :: a11 :: a12 :: a13 :: a14 :: a15 :: a16 :: S.lent d :: r) 17 kd = kd d := rdK_of rfl
theorem k_rl18 {a0 a1 a2 a3 a4 a5 a6 a7 a8 a9 a10 a11 a12 a13 a14 a15 a16 a17 : S} : rdK (a0 :: a1 :: a2 :: a3 :: a4 :: a5 :: a6 :: a7 :: a8 :: a9 :: a10 :: a11 :: a12 :: a13 :: a14 :: a15 :: a16 :: a17 :: S.lent d :: r) 18 kd = kd d := rdK_of rfl
theorem k_rl19 {a0 a1 a2 a3 a4 a5 a6 a7 a8 a9 a10 a11 a12 a13 a14 a15 a16 a17 a18 : S} : rdK (a0 :: a1 :: a2 :: a3 :: a4 :: a5 :: a6 :: a7 :: a8 :: a9 :: a10 :: a11 :: a12 :: a13 :: a14 :: a15 :: a16 :: a17 :: a18 :: S.lent d :: r) 19 kd = kd d := rdK_of rfl
theorem k_rl20 {a0 a1 a2 a3 a4 a5 a6 a7 a8 a9 a10 a11 a12 a13 a14 a15 a16 a17 a18 a19 : S} : rdK (a0 :: a1 :: a2 :: a3 :: a4 :: a5 :: a6 :: a7 :: a8 :: a9 :: a10 :: a11 :: a12 :: a13 :: a14 :: a15 :: a16 :: a17 :: a18 :: a19 :: S.lent d :: r) 20 kd = kd d := rdK_of rfl
theorem k_rl21 {a0 a1 a2 a3 a4 a5 a6 a7 a8 a9 a10 a11 a12 a13 a14 a15 a16 a17 a18 a19 a20 : S} : rdK (a0 :: a1 :: a2 :: a3 :: a4 :: a5 :: a6 :: a7 :: a8 :: a9 :: a10 :: a11 :: a12 :: a13 :: a14 :: a15 :: a16 :: a17 :: a18 :: a19 :: a20 :: S.lent d :: r) 21 kd = kd d := rdK_of rfl
theorem k_rl22 {a0 a1 a2 a3 a4 a5 a6 a7 a8 a9 a10 a11 a12 a13 a14 a15 a16 a17 a18 a19 a20 a21 : S} : rdK (a0 :: a1 :: a2 :: a3 :: a4 :: a5 :: a6 :: a7 :: a8 :: a9 :: a10 :: a11 :: a12 :: a13 :: a14 :: a15 :: a16 :: a17 :: a18 :: a19 :: a20 :: a21 :: S.lent d :: r) 22 kd = kd d := rdK_of rfl
theorem k_rl23 {a0 a1 a2 a3 a4 a5 a6 a7 a8 a9 a10 a11 a12 a13 a14 a15 a16 a17 a18 a19 a20 a21 a22 : S} : rdK (a0 :: a1 :: a2 :: a3 :: a4 :: a5 :: a6 :: a7 :: a8 :: a9 :: a10 :: a11 :: a12 :: a13 :: a14 :: a15 :: a16 :: a17 :: a18 :: a19 :: a20 :: a21 :: a22 :: S.lent d :: r) 23 kd = kd d := rdK_of rfl
theorem k_rl24 {a0 a1 a2 a3 a4 a5 a6 a7 a8 a9 a10 a11 a12 a13 a14 a15 a16 a17 a18 a19 a20 a21 a22 a23 : S} : rdK (a0 :: a1 :: a2 :: a3 :: a4 :: a5 :: a6 :: a7 :: a8 :: a9 :: a10 :: a11 :: a12 :: a13 :: a14 :: a15 :: a16 :: a17 :: a18 :: a19 :: a20 :: a21 :: a22 :: a23 :: S.lent d :: r) 24 kd = kd d := rdK_of rfl
theorem k_rl25 {a0 a1 a2 a3 a4 a5 a6 a7 a8 a9 a10 a11 a12 a13 a14 a15 a16 a17 a18 a19 a20 a21 a22 a23 a24 : S} : rdK (a0 :: a1 :: a2 :: a3 :: a4 :: a5 :: a6 :: a7 :: a8 :: a9 :: a10 :: a11 :: a12 :: a13 :: a14 :: a15 :: a16 :: a17 :: a18 :: a19 :: a20 :: a21 :: a22 :: a23 :: a24 :: S.lent d :: r) 25 kd = kd d := rdK_of rfl
theorem k_oo0 : ownK (S.own d :: r) 0 kd = kd d := ownK_of rfl
theorem k_oo1 {a0 : S} : ownK (a0 :: S.own d :: r) 1 kd = kd d := ownK_of rfl
theorem k_oo2 {a0 a1 : S} : ownK (a0 :: a1 :: S.own d :: r) 2 kd = kd d := ownK_of rfl
theorem k_oo3 {a0 a1 a2 : S} : ownK (a0 :: a1 :: a2 :: S.own d :: r) 3 kd = kd d := ownK_of rfl
theorem k_oo4 {a0 a1 a2 a3 : S} : ownK (a0 :: a1 :: a2 :: a3 :: S.own d :: r) 4 kd = kd d := ownK_of rfl
theorem k_oo5 {a0 a1 a2 a3 a4 : S} : ownK (a0 :: a1 :: a2 :: a3 :: a4 :: S.own d :: r) 5 kd = kd d := ownK_of rfl
theorem k_oo6 {a0 a1 a2 a3 a4 a5 : S} : ownK (a0 :: a1 :: a2 :: a3 :: a4 :: a5 :: S.own d :: r) 6 kd = kd d := ownK_of rfl
theorem k_oo7 {a0 a1 a2 a3 a4 a5 a6 : S} : ownK (a0 :: a1 :: a2 :: a3 :: a4 :: a5 :: a6 :: S.own d :: r) 7 kd = kd d := ownK_of rfl
theorem k_oo8 {a0 a1 a2 a3 a4 a5 a6 a7 : S} : ownK (a0 :: a1 :: a2 :: a3 :: a4 :: a5 :: a6 :: a7 :: S.own d :: r) 8 kd = kd d := ownK_of rfl
theorem k_oo9 {a0 a1 a2 a3 a4 a5 a6 a7 a8 : S} : ownK (a0 :: a1 :: a2 :: a3 :: a4 :: a5 :: a6 :: a7 :: a8 :: S.own d :: r) 9 kd = kd d := ownK_of rfl
theorem k_oo10 {a0 a1 a2 a3 a4 a5 a6 a7 a8 a9 : S} : ownK (a0 :: a1 :: a2 :: a3 :: a4 :: a5 :: a6 :: a7 :: a8 :: a9 :: S.own d :: r) 10 kd = kd d := ownK_of rfl
theorem k_oo11 {a0 a1 a2 a3 a4 a5 a6 a7 a8 a9 a10 : S} : ownK (a0 :: a1 :: a2 :: a3 :: a4 :: a5 :: a6 :: a7 :: a8 :: a9 :: a10 :: S.own d :: r) 11 kd = kd d := ownK_of rfl
theorem k_oo12 {a0 a1 a2 a3 a4 a5 a6 a7 a8 a9 a10 a11 : S} : ownK (a0 :: a1 :: a2 :: a3 :: a4 :: a5 :: a6 :: a7 :: a8 :: a9 :: a10 :: a11 :: S.own d :: r) 12 kd = kd d := ownK_of rfl
theorem k_oo13 {a0 a1 a2 a3 a4 a5 a6 a7 a8 a9 a10 a11 a12 : S} : ownK (a0 :: a1 :: a2 :: a3 :: a4 :: a5 :: a6 :: a7 :: a8 :: a9 :: a10 :: a11 :: a12 :: S.own d :: r) 13 kd = kd d := ownK_of rfl
theorem k_oo14 {a0 a1 a2 a3 a4 a5 a6 a7 a8 a9 a10 a11 a12 a13 : S} : ownK (a0 :: a1 :: a2 :: a3 :: a4 :: a5 :: a6 :: a7 :: a8 :: a9 :: a10 :: a11 :: a12 :: a13 :: S.own d :: r) 14 kd = kd d := ownK_of rfl
theorem k_oo15 {a0 a1 a2 a3 a4 a5 a6 a7 a8 a9 a10 a11 a12 a13 a14 : S} : ownK (a0 :: a1 :: a2 :: a3 :: a4 :: a5 :: a6 :: a7 :: a8 :: a9 :: a10 :: a11 :: a12 :: a13 :: a14 :: S.own d :: r) 15 kd = kd d := ownK_of rfl
theorem k_oo16 {a0 a1 a2 a3 a4 a5 a6 a7 a8 a9 a10 a11 a12 a13 a14 a15 : S} : ownK (a0 :: a1 :: a2 :: a3 :: a4 :: a5 :: a6 :: a7 :: a8 :: a9 :: a10 :: a11 :: a12 :: a13 :: a14 :: a15 :: S.own d :: r) 16 kd = kd d := ownK_of rfl
theorem k_oo17 {a0 a1 a2 a3 a4 a5 a6 a7 a8 a9 a10 a11 a12 a13 a14 a15 a16 : S} : ownK (a0 :: a1 :: a2 :: a3 :: a4 :: a5 :: a6 :: a7 :: a8 :: a9 :: a10 :: a11 :: a12 :: a13 :: a14 :: a15 :: a16 :: S.own d :: r) 17 kd = kd d := ownK_of rfl
theorem k_oo18 {a0 a1 a2 a3 a4 a5 a6 a7 a8 a9 a10 a11 a12 a13 a14 a15 a16 a17 : S} : ownK (a0 :: a1 :: a2 :: a3 :: a4 :: a5 :: a6 :: a7 :: a8 :: a9 :: a10 :: a11 :: a12 :: a13 :: a14 :: a15 :: a16 :: a17 :: S.own d :: r) 18 kd = kd d := ownK_of rfl
theorem k_oo19 {a0 a1 a2 a3 a4 a5 a6 a7 a8 a9 a10 a11 a12 a13 a14 a15 a16 a17 a18 : S} : ownK (a0 :: a1 :: a2 :: a3 :: a4 :: a5 :: a6 :: a7 :: a8 :: a9 :: a10 :: a11 :: a12 :: a13 :: a14 :: a15 :: a16 :: a17 :: a18 :: S.own d :: r) 19 kd = kd d := ownK_of rfl
theorem k_oo20 {a0 a1 a2 a3 a4 a5 a6 a7 a8 a9 a10 a11 a12 a13 a14 a15 a16 a17 a18 a19 : S} : ownK (a0 :: a1 :: a2 :: a3 :: a4 :: a5 :: a6 :: a7 :: a8 :: a9 :: a10 :: a11 :: a12 :: a13 :: a14 :: a15 :: a16 :: a17 :: a18 :: a19 :: S.own d :: r) 20 kd = kd d := ownK_of rfl
theorem k_oo21 {a0 a1 a2 a3 a4 a5 a6 a7 a8 a9 a10 a11 a12 a13 a14 a15 a16 a17 a18 a19 a20 : S} : ownK (a0 :: a1 :: a2 :: a3 :: a4 :: a5 :: a6 :: a7 :: a8 :: a9 :: a10 :: a11 :: a12 :: a13 :: a14 :: a15 :: a16 :: a17 :: a18 :: a19 :: a20 :: S.own d :: r) 21 kd = kd d := ownK_of rfl
theorem k_oo22 {a0 a1 a2 a3 a4 a5 a6 a7 a8 a9 a10 a11 a12 a13 a14 a15 a16 a17 a18 a19 a20 a21 : S} : ownK (a0 :: a1 :: a2 :: a3 :: a4 :: a5 :: a6 :: a7 :: a8 :: a9 :: a10 :: a11 :: a12 :: a13 :: a14 :: a15 :: a16 :: a17 :: a18 :: a19 :: a20 :: a21 :: S.own d :: r) 22 kd = kd d := ownK_of rfl
theorem k_oo23 {a0 a1 a2 a3 a4 a5 a6 a7 a8 a9 a10 a11 a12 a13 a14 a15 a16 a17 a18 a19 a20 a21 a22 : S} : ownK (a0 :: a1 :: a2 :: a3 :: a4 :: a5 :: a6 :: a7 :: a8 :: a9 :: a10 :: a11 :: a12 :: a13 :: a14 :: a15 :: a16 :: a17 :: a18 :: a19 :: a20 :: a21 :: a22 :: S.own d :: r) 23 kd = kd d := ownK_of rfl
theorem k_oo24 {a0 a1 a2 a3 a4 a5 a6 a7 a8 a9 a10 a11 a12 a13 a14 a15 a16 a17 a18 a19 a20 a21 a22 a23 : S} : ownK (a0 :: a1 :: a2 :: a3 :: a4 :: a5 :: a6 :: a7 :: a8 :: a9 :: a10 :: a11 :: a12 :: a13 :: a14 :: a15 :: a16 :: a17 :: a18 :: a19 :: a20 :: a21 :: a22 :: a23 :: S.own d :: r) 24 kd = kd d := ownK_of rfl
theorem k_oo25 {a0 a1 a2 a3 a4 a5 a6 a7 a8 a9 a10 a11 a12 a13 a14 a15 a16 a17 a18 a19 a20 a21 a22 a23 a24 : S} : ownK (a0 :: a1 :: a2 :: a3 :: a4 :: a5 :: a6 :: a7 :: a8 :: a9 :: a10 :: a11 :: a12 :: a13 :: a14 :: a15 :: a16 :: a17 :: a18 :: a19 :: a20 :: a21 :: a22 :: a23 :: a24 :: S.own d :: r) 25 kd = kd d := ownK_of rfl
theorem k_ol0 : ownK (S.lent d :: r) 0 kd = kd d := ownK_of rfl
theorem k_ol1 {a0 : S} : ownK (a0 :: S.lent d :: r) 1 kd = kd d := ownK_of rfl
theorem k_ol2 {a0 a1 : S} : ownK (a0 :: a1 :: S.lent d :: r) 2 kd = kd d := ownK_of rfl
theorem k_ol3 {a0 a1 a2 : S} : ownK (a0 :: a1 :: a2 :: S.lent d :: r) 3 kd = kd d := ownK_of rfl
theorem k_ol4 {a0 a1 a2 a3 : S} : ownK (a0 :: a1 :: a2 :: a3 :: S.lent d :: r) 4 kd = kd d := ownK_of rfl
theorem k_ol5 {a0 a1 a2 a3 a4 : S} : ownK (a0 :: a1 :: a2 :: a3 :: a4 :: S.lent d :: r) 5 kd = kd d := ownK_of rfl
theorem k_ol6 {a0 a1 a2 a3 a4 a5 : S} : ownK (a0 :: a1 :: a2 :: a3 :: a4 :: a5 :: S.lent d :: r) 6 kd = kd d := ownK_of rfl
theorem k_ol7 {a0 a1 a2 a3 a4 a5 a6 : S} : ownK (a0 :: a1 :: a2 :: a3 :: a4 :: a5 :: a6 :: S.lent d :: r) 7 kd = kd d := ownK_of rfl
theorem k_ol8 {a0 a1 a2 a3 a4 a5 a6 a7 : S} : ownK (a0 :: a1 :: a2 :: a3 :: a4 :: a5 :: a6 :: a7 :: S.lent d :: r) 8 kd = kd d := ownK_of rfl
theorem k_ol9 {a0 a1 a2 a3 a4 a5 a6 a7 a8 : S} : ownK (a0 :: a1 :: a2 :: a3 :: a4 :: a5 :: a6 :: a7 :: a8 :: S.lent d :: r) 9 kd = kd d := ownK_of rfl
theorem k_ol10 {a0 a1 a2 a3 a4 a5 a6 a7 a8 a9 : S} : ownK (a0 :: a1 :: a2 :: a3 :: a4 :: a5 :: a6 :: a7 :: a8 :: a9 :: S.lent d :: r) 10 kd = kd d := ownK_of rfl
theorem k_ol11 {a0 a1 a2 a3 a4 a5 a6 a7 a8 a9 a10 : S} : ownK (a0 :: a1 :: a2 :: a3 :: a4 :: a5 :: a6 :: a7 :: a8 :: a9 :: a10 :: S.lent d :: r) 11 kd = kd d := ownK_of rfl
theorem k_ol12 {a0 a1 a2 a3 a4 a5 a6 a7 a8 a9 a10 a11 : S} : ownK (a0 :: a1 :: a2 :: a3 :: a4 :: a5 :: a6 :: a7 :: a8 :: a9 :: a10 :: a11 :: S.lent d :: r) 12 kd = kd d := ownK_of rfl
theorem k_ol13 {a0 a1 a2 a3 a4 a5 a6 a7 a8 a9 a10 a11 a12 : S} : ownK (a0 :: a1 :: a2 :: a3 :: a4 :: a5 :: a6 :: a7 :: a8 :: a9 :: a10 :: a11 :: a12 :: S.lent d :: r) 13 kd = kd d := ownK_of rfl
theorem k_ol14 {a0 a1 a2 a3 a4 a5 a6 a7 a8 a9 a10 a11 a12 a13 : S} : ownK (a0 :: a1 :: a2 :: a3 :: a4 :: a5 :: a6 :: a7 :: a8 :: a9 :: a10 :: a11 :: a12 :: a13 :: S.lent d :: r) 14 kd = kd d := ownK_of rfl
theorem k_ol15 {a0 a1 a2 a3 a4 a5 a6 a7 a8 a9 a10 a11 a12 a13 a14 : S} : ownK (a0 :: a1 :: a2 :: a3 :: a4 :: a5 :: a6 :: a7 :: a8 :: a9 :: a10 :: a11 :: a12 :: a13 :: a14 :: S.lent d :: r) 15 kd = kd d := ownK_of rfl
theorem k_ol16 {a0 a1 a2 a3 a4 a5 a6 a7 a8 a9 a10 a11 a12 a13 a14 a15 : S} : ownK (a0 :: a1 :: a2 :: a3 :: a4 :: a5 :: a6 :: a7 :: a8 :: a9 :: a10 :: a11 :: a12 :: a13 :: a14 :: a15 :: S.lent d :: r) 16 kd = kd d := ownK_of rfl
theorem k_ol17 {a0 a1 a2 a3 a4 a5 a6 a7 a8 a9 a10 a11 a12 a13 a14 a15 a16 : S} : ownK (a0 :: a1 :: a2 :: a3 :: a4 :: a5 :: a6 :: a7 :: a8 :: a9 :: a10 :: a11 :: a12 :: a13 :: a14 :: a15 :: a16 :: S.lent d :: r) 17 kd = kd d := ownK_of rfl
theorem k_ol18 {a0 a1 a2 a3 a4 a5 a6 a7 a8 a9 a10 a11 a12 a13 a14 a15 a16 a17 : S} : ownK (a0 :: a1 :: a2 :: a3 :: a4 :: a5 :: a6 :: a7 :: a8 :: a9 :: a10 :: a11 :: a12 :: a13 :: a14 :: a15 :: a16 :: a17 :: S.lent d :: r) 18 kd = kd d := ownK_of rfl
theorem k_ol19 {a0 a1 a2 a3 a4 a5 a6 a7 a8 a9 a10 a11 a12 a13 a14 a15 a16 a17 a18 : S} : ownK (a0 :: a1 :: a2 :: a3 :: a4 :: a5 :: a6 :: a7 :: a8 :: a9 :: a10 :: a11 :: a12 :: a13 :: a14 :: a15 :: a16 :: a17 :: a18 :: S.lent d :: r) 19 kd = kd d := ownK_of rfl
theorem k_ol20 {a0 a1 a2 a3 a4 a5 a6 a7 a8 a9 a10 a11 a12 a13 a14 a15 a16 a17 a18 a19 : S} : ownK (a0 :: a1 :: a2 :: a3 :: a4 :: a5 :: a6 :: a7 :: a8 :: a9 :: a10 :: a11 :: a12 :: a13 :: a14 :: a15 :: a16 :: a17 :: a18 :: a19 :: S.lent d :: r) 20 kd = kd d := ownK_of rfl
theorem k_ol21 {a0 a1 a2 a3 a4 a5 a6 a7 a8 a9 a10 a11 a12 a13 a14 a15 a16 a17 a18 a19 a20 : S} : ownK (a0 :: a1 :: a2 :: a3 :: a4 :: a5 :: a6 :: a7 :: a8 :: a9 :: a10 :: a11 :: a12 :: a13 :: a14 :: a15 :: a16 :: a17 :: a18 :: a19 :: a20 :: S.lent d :: r) 21 kd = kd d := ownK_of rfl
theorem k_ol22 {a0 a1 a2 a3 a4 a5 a6 a7 a8 a9 a10 a11 a12 a13 a14 a15 a16 a17 a18 a19 a20 a21 : S} : ownK (a0 :: a1 :: a2 :: a3 :: a4 :: a5 :: a6 :: a7 :: a8 :: a9 :: a10 :: a11 :: a12 :: a13 :: a14 :: a15 :: a16 :: a17 :: a18 :: a19 :: a20 :: a21 :: S.lent d :: r) 22 kd = kd d := ownK_of rfl
theorem k_ol23 {a0 a1 a2 a3 a4 a5 a6 a7 a8 a9 a10 a11 a12 a13 a14 a15 a16 a17 a18 a19 a20 a21 a22 : S} : ownK (a0 :: a1 :: a2 :: a3 :: a4 :: a5 :: a6 :: a7 :: a8 :: a9 :: a10 :: a11 :: a12 :: a13 :: a14 :: a15 :: a16 :: a17 :: a18 :: a19 :: a20 :: a21 :: a22 :: S.lent d :: r) 23 kd = kd d := ownK_of rfl
theorem k_ol24 {a0 a1 a2 a3 a4 a5 a6 a7 a8 a9 a10 a11 a12 a13 a14 a15 a16 a17 a18 a19 a20 a21 a22 a23 : S} : ownK (a0 :: a1 :: a2 :: a3 :: a4 :: a5 :: a6 :: a7 :: a8 :: a9 :: a10 :: a11 :: a12 :: a13 :: a14 :: a15 :: a16 :: a17 :: a18 :: a19 :: a20 :: a21 :: a22 :: a23 :: S.lent d :: r) 24 kd = kd d := ownK_of rfl
theorem k_ol25 {a0 a1 a2 a3 a4 a5 a6 a7 a8 a9 a10 a11 a12 a13 a14 a15 a16 a17 a18 a19 a20 a21 a22 a23 a24 : S} : ownK (a0 :: a1 :: a2 :: a3 :: a4 :: a5 :: a6 :: a7 :: a8 :: a9 :: a10 :: a11 :: a12 :: a13 :: a14 :: a15 :: a16 :: a17 :: a18 :: a19 :: a20 :: a21 :: a22 :: a23 :: a24 :: S.lent d :: r) 25 kd = kd d := ownK_of rfl
theorem k_lo0 : ownLK (S.own (.lst ds) :: r) 0 kl = kl ds := ownLK_of rfl
theorem k_lo1 {a0 : S} : ownLK (a0 :: S.own (.lst ds) :: r) 1 kl = kl ds := ownLK_of rfl
theorem k_lo2 {a0 a1 : S} : ownLK (a0 :: a1 :: S.own (.lst ds) :: r) 2 kl = kl ds := ownLK_of rfl
theorem k_lo3 {a0 a1 a2 : S} : ownLK (a0 :: a1 :: a2 :: S.own (.lst ds) :: r) 3 kl = kl ds := ownLK_of rfl
theorem k_lo4 {a0 a1 a2 a3 : S} : ownLK (a0 :: a1 :: a2 :: a3 :: S.own (.lst ds) :: r) 4 kl = kl ds := ownLK_of rfl
theorem k_lo5 {a0 a1 a2 a3 a4 : S} : ownLK (a0 :: a1 :: a2 :: a3 :: a4 :: S.own (.lst ds) :: r) 5 kl = kl ds := ownLK_of rfl
theorem k_lo6 {a0 a1 a2 a3 a4 a5 : S} : ownLK (a0 :: a1 :: a2 :: a3 :: a4 :: a5 :: S.own (.lst ds) :: r) 6 kl = kl ds := ownLK_of rfl
theorem k_lo7 {a0 a1 a2 a3 a4 a5 a6 : S} : ownLK (a0 :: a1 :: a2 :: a3 :: a4 :: a5 :: a6 :: S.own (.lst ds) :: r) 7 kl = kl ds := ownLK_of rfl
theorem k_lo8 {a0 a1 a2 a3 a4 a5 a6 a7 : S} : ownLK (a0 :: a1 :: a2 :: a3 :: a4 :: a5 :: a6 :: a7 :: S.own (.lst ds) :: r) 8 kl = kl ds := ownLK_of rfl
theorem k_lo9 {a0 a1 a2 a3 a4 a5 a6 a7 a8 : S} : ownLK (a0 :: a1 :: a2 :: a3 :: a4 :: a5 :: a6 :: a7 :: a8 :: S.own (.lst ds) :: r) 9 kl = kl ds := ownLK_of rfl
theorem k_lo10 {a0 a1 a2 a3 a4 a5 a6 a7 a8 a9 : S} : ownLK (a0 :: a1 :: a2 :: a3 :: a4 :: a5 :: a6 :: a7 :: a8 :: a9 :: S.own (.lst ds) :: r) 10 kl = kl ds := ownLK_of rfl
theorem k_lo11 {a0 a1 a2 a3 a4 a5 a6 a7 a8 a9 a10 : S} : ownLK (a0 :: a1 :: a2 :: a3 :: a4 :: a5 :: a6 :: a7 :: a8 :: a9 :: a10 :: S.own (.lst ds) :: r) 11 kl = kl ds := ownLK_of rfl
theorem k_lo12 {a0 a1 a2 a3 a4 a5 a6 a7 a8 a9 a10 a11 : S} : ownLK (a0 :: a1 :: a2 :: a3 :: a4 :: a5 :: a6 :: a7 :: a8 :: a9 :: a10 :: a11 :: S.own (.lst ds) :: r) 12 kl = kl ds := ownLK_of rfl
theorem k_lo13 {a0 a1 a2 a3 a4 a5 a6 a7 a8 a9 a10 a11 a12 : S} : ownLK (a0 :: a1 :: a2 :: a3 :: a4 :: a5 :: a6 :: a7 :: a8 :: a9 :: a10 :: a11 :: a12 :: S.own (.lst ds) :: r) 13 kl = kl ds := ownLK_of rfl
theorem k_lo14 {a0 a1 a2 a3 a4 a5 a6 a7 a8 a9 a10 a11 a12 a13 : S} : ownLK (a0 :: a1 :: a2 :: a3 :: a4 :: a5 :: a6 :: a7 :: a8 :: a9 :: a10 :: a11 :: a12 :: a13 :: S.own (.lst ds) :: r) 14 kl = kl ds := ownLK_of rfl
theorem k_lo15 {a0 a1 a2 a3 a4 a5 a6 a7 a8 a9 a10 a11 a12 a13 a14 : S} : ownLK (a0 :: a1 :: a2 :: a3 :: a4 :: a5 :: a6 :: a7 :: a8 :: a9 :: a10 :: a11 :: a12 :: a13 :: a14 :: S.own (.lst ds) :: r) 15 kl = kl ds := ownLK_of rfl
theorem k_lo16 {a0 a1 a2 a3 a4 a5 a6 a7 a8 a9 a10 a11 a12 a13 a14 a15 : S} : ownLK (a0 :: a1 :: a2 :: a3 :: a4 :: a5 :: a6 :: a7 :: a8 :: a9 :: a10 :: a11 :: a12 :: a13 :: a14 :: a15 :: S.own (.lst ds) :: r) 16 kl = kl ds := ownLK_of rfl
theorem k_lo17 {a0 a1 a2 a3 a4 a5 a6 a7 a8 a9 a10 a11 a12 a13 a14 a15 a16 : S} : ownLK (a0 :: a1 :: a2 :: a3 :: a4 :: a5 :: a6 :: a7 :: a8 :: a9 :: a10 :: a11 :: a12 :: a13 :: a14 :: a15 :: a16 :: S.own (.lst ds) :: r) 17 kl = kl ds := ownLK_of rfl
theorem k_lo18 {a0 a1 a2 a3 a4 a5 a6 a7 a8 a9 a10 a11 a12 a13 a14 a15 a16 a17 : S} : ownLK (a0 :: a1 :: a2 :: a3 :: a4 :: a5 :: a6 :: a7 :: a8 :: a9 :: a10 :: a11 :: a12 :: a13 :: a14 :: a15 :: a16 :: a17 :: S.own (.lst ds) :: r) 18 kl = kl ds := ownLK_of rfl
theorem k_lo19 {a0 a1 a2 a3 a4 a5 a6 a7 a8 a9 a10 a11 a12 a13 a14 a15 a16 a17 a18 : S} : ownLK (a0 :: a1 :: a2 :: a3 :: a4 :: a5 :: a6 :: a7 :: a8 :: a9 :: a10 :: a11 :: a12 :: a13 :: a14 :: a15 :: a16 :: a17 :: a18 :: S.own (.lst ds) :: r) 19 kl = kl ds := ownLK_of rfl
theorem k_lo20 {a0 a1 a2 a3 a4 a5 a6 a7 a8 a9 a10 a11 a12 a13 a14 a15 a16 a17 a18 a19 : S} : ownLK (a0 :: a1 :: a2 :: a3 :: a4 :: a5 :: a6 :: a7 :: a8 :: a9 :: a10 :: a11 :: a12 :: a13 :: a14 :: a15 :: a16 :: a17 :: a18 :: a19 :: S.own (.lst ds) :: r) 20 kl = kl ds := ownLK_of rfl
theorem k_lo21 {a0 a1 a2 a3 a4 a5 a6 a7 a8 a9 a10 a11 a12 a13 a14 a15 a16 a17 a18 a19 a20 : S} : ownLK (a0 :: a1 :: a2 :: a3 :: a4 :: a5 :: a6 :: a7 :: a8 :: a9 :: a10 :: a11 :: a12 :: a13 :: a14 :: a15 :: a16 :: a17 :: a18 :: a19 :: a20 :: S.own (.lst ds) :: r) 21 kl = kl ds := ownLK_of rfl
theorem k_lo22 {a0 a1 a2 a3 a4 a5 a6 a7 a8 a9 a10 a11 a12 a13 a14 a15 a16 a17 a18 a19 a20 a21 : S} : ownLK (a0 :: a1 :: a2 :: a3 :: a4 :: a5 :: a6 :: a7 :: a8 :: a9 :: a10 :: a11 :: a12 :: a13 :: a14 :: a15 :: a16 :: a17 :: a18 :: a19 :: a20 :: a21 :: S.own (.lst ds) :: r) 22 kl = kl ds := ownLK_of rfl
theorem k_lo23 {a0 a1 a2 a3 a4 a5 a6 a7 a8 a9 a10 a11 a12 a13 a14 a15 a16 a17 a18 a19 a20 a21 a22 : S} : ownLK (a0 :: a1 :: a2 :: a3 :: a4 :: a5 :: a6 :: a7 :: a8 :: a9 :: a10 :: a11 :: a12 :: a13 :: a14 :: a15 :: a16 :: a17 :: a18 :: a19 :: a20 :: a21 :: a22 :: S.own (.lst ds) :: r) 23 kl = kl ds := ownLK_of rfl
theorem k_lo24 {a0 a1 a2 a3 a4 a5 a6 a7 a8 a9 a10 a11 a12 a13 a14 a15 a16 a17 a18 a19 a20 a21 a22 a23 : S} : ownLK (a0 :: a1 :: a2 :: a3 :: a4 :: a5 :: a6 :: a7 :: a8 :: a9 :: a10 :: a11 :: a12 :: a13 :: a14 :: a15 :: a16 :: a17 :: a18 :: a19 :: a20 :: a21 :: a22 :: a23 :: S.own (.lst ds) :: r) 24 kl = kl ds := ownLK_of rfl
theorem k_lo25 {a0 a1 a2 a3 a4 a5 a6 a7 a8 a9 a10 a11 a12 a13 a14 a15 a16 a17 a18 a19 a20 a21 a22 a23 a24 : S} : ownLK (a0 :: a1 :: a2 :: a3 :: a4 :: a5 :: a6 :: a7 :: a8 :: a9 :: a10 :: a11 :: a12 :: a13 :: a14 :: a15 :: a16 :: a17 :: a18 :: a19 :: a20 :: a21 :: a22 :: a23 :: a24 :: S.own (.lst ds) :: r) 25 kl = kl ds := ownLK_of rfl
theorem k_ll0 : ownLK (S.lent (.lst ds) :: r) 0 kl = kl ds := ownLK_of rfl
theorem k_ll1 {a0 : S} : ownLK (a0 :: S.lent (.lst ds) :: r) 1 kl = kl ds := ownLK_of rfl
theorem k_ll2 {a0 a1 : S} : ownLK (a0 :: a1 :: S.lent (.lst ds) :: r) 2 kl = kl ds := ownLK_of rfl
theorem k_ll3 {a0 a1 a2 : S} : ownLK (a0 :: a1 :: a2 :: S.lent (.lst ds) :: r) 3 kl = kl ds := ownLK_of rfl
theorem k_ll4 {a0 a1 a2 a3 : S} : ownLK (a0 :: a1 :: a2 :: a3 :: S.lent (.lst ds) :: r) 4 kl = kl ds := ownLK_of rfl
theorem k_ll5 {a0 a1 a2 a3 a4 : S} : ownLK (a0 :: a1 :: a2 :: a3 :: a4 :: S.lent (.lst ds) :: r) 5 kl = kl ds := ownLK_of rfl
theorem k_ll6 {a0 a1 a2 a3 a4 a5 : S} : ownLK (a0 :: a1 :: a2 :: a3 :: a4 :: a5 :: S.lent (.lst ds) :: r) 6 kl = kl ds := ownLK_of rfl
theorem k_ll7 {a0 a1 a2 a3 a4 a5 a6 : S} : ownLK (a0 :: a1 :: a2 :: a3 :: a4 :: a5 :: a6 :: S.lent (.lst ds) :: r) 7 kl = kl ds := ownLK_of rfl
theorem k_ll8 {a0 a1 a2 a3 a4 a5 a6 a7 : S} : ownLK (a0 :: a1 :: a2 :: a3 :: a4 :: a5 :: a6 :: a7 :: S.lent (.lst ds) :: r) 8 kl = kl ds := ownLK_of rfl
theorem k_ll9 {a0 a1 a2 a3 a4 a5 a6 a7 a8 : S} : ownLK (a0 :: a1 :: a2 :: a3 :: a4 :: a5 :: a6 :: a7 :: a8 :: S.lent (.lst ds) :: r) 9 kl = kl ds := ownLK_of rfl
theorem k_ll10 {a0 a1 a2 a3 a4 a5 a6 a7 a8 a9 : S} : ownLK (a0 :: a1 :: a2 :: a3 :: a4 :: a5 :: a6 :: a7 :: a8 :: a9 :: S.lent (.lst ds) :: r) 10 kl = kl ds := ownLK_of rfl
theorem k_ll11 {a0 a1 a2 a3 a4 a5 a6 a7 a8 a9 a10 : S} : ownLK (a0 :: a1 :: a2 :: a3 :: a4 :: a5 :: a6 :: a7 :: a8 :: a9 :: a10 :: S.lent (.lst ds) :: r) 11 kl = kl ds := ownLK_of rfl
theorem k_ll12 {a0 a1 a2 a3 a4 a5 a6 a7 a8 a9 a10 a11 : S} : ownLK (a0 :: a1 :: a2 :: a3 :: a4 :: a5 :: a6 :: a7 :: a8 :: a9 :: a10 :: a11 :: S.lent (.lst ds) :: r) 12 kl = kl ds := ownLK_of rfl
theorem k_ll13 {a0 a1 a2 a3 a4 a5 a6 a7 a8 a9 a10 a11 a12 : S} : ownLK (a0 :: a1 :: a2 :: a3 :: a4 :: a5 :: a6 :: a7 :: a8 :: a9 :: a10 :: a11 :: a12 :: S.lent (.lst ds) :: r) 13 kl = kl ds := ownLK_of rfl
theorem k_ll14 {a0 a1 a2 a3 a4 a5 a6 a7 a8 a9 a10 a11 a12 a13 : S} : ownLK (a0 :: a1 :: a2 :: a3 :: a4 :: a5 :: a6 :: a7 :: a8 :: a9 :: a10 :: a11 :: a12 :: a13 :: S.lent (.lst ds) :: r) 14 kl = kl ds := ownLK_of rfl
theorem k_ll15 {a0 a1 a2 a3 a4 a5 a6 a7 a8 a9 a10 a11 a12 a13 a14 : S} : ownLK (a0 :: a1 :: a2 :: a3 :: a4 :: a5 :: a6 :: a7 :: a8 :: a9 :: a10 :: a11 :: a12 :: a13 :: a14 :: S.lent (.lst ds) :: r) 15 kl = kl ds := ownLK_of rfl
theorem k_ll16 {a0 a1 a2 a3 a4 a5 a6 a7 a8 a9 a10 a11 a12 a13 a14 a15 : S} : ownLK (a0 :: a1 :: a2 :: a3 :: a4 :: a5 :: a6 :: a7 :: a8 :: a9 :: a10 :: a11 :: a12 :: a13 :: a14 :: a15 :: S.lent (.lst ds) :: r) 16 kl = kl ds := ownLK_of rfl
theorem k_ll17 {a0 a1 a2 a3 a4 a5 a6 a7 a8 a9 a10 a11 a12 a13 a14 a15 a16 : S} : ownLK (a0 :: a1 :: a2 :: a3 :: a4 :: a5 :: a6 :: a7 :: a8 :: a9 :: a10 :: a11 :: a12 :: a13 :: a14 :: a15 :: a16 :: S.lent (.lst ds) :: r) 17 kl = kl ds := ownLK_of rfl
theorem k_ll18 {a0 a1 a2 a3 a4 a5 a6 a7 a8 a9 a10 a11 a12 a13 a14 a15 a16 a17 : S} : ownLK (a0 :: a1 :: a2 :: a3 :: a4 :: a5 :: a6 :: a7 :: a8 :: a9 :: a10 :: a11 :: a12 :: a13 :: a14 :: a15 :: a16 :: a17 :: S.lent (.lst ds) :: r) 18 kl = kl ds := ownLK_of rfl
theorem k_ll19 {a0 a1 a2 a3 a4 a5 a6 a7 a8 a9 a10 a11 a12 a13 a14 a15 a16 a17 a18 : S} : ownLK (a0 :: a1 :: a2 :: a3 :: a4 :: a5 :: a6 :: a7 :: a8 :: a9 :: a10 :: a11 :: a12 :: a13 :: a14 :: a15 :: a16 :: a17 :: a18 :: S.lent (.lst ds) :: r) 19 kl = kl ds := ownLK_of rfl
theorem k_ll20 {a0 a1 a2 a3 a4 a5 a6 a7 a8 a9 a10 a11 a12 a13 a14 a15 a16 a17 a18 a19 : S} : ownLK (a0 :: a1 :: a2 :: a3 :: a4 :: a5 :: a6 :: a7 :: a8 :: a9 :: a10 :: a11 :: a12 :: a13 :: a14 :: a15 :: a16 :: a17 :: a18 :: a19 :: S.lent (.lst ds) :: r) 20 kl = kl ds := ownLK_of rfl
theorem k_ll21 {a0 a1 a2 a3 a4 a5 a6 a7 a8 a9 a10 a11 a12 a13 a14 a15 a16 a17 a18 a19 a20 : S} : ownLK (a0 :: a1 :: a2 :: a3 :: a4 :: a5 :: a6 :: a7 :: a8 :: a9 :: a10 :: a11 :: a12 :: a13 :: a14 :: a15 :: a16 :: a17 :: a18 :: a19 :: a20 :: S.lent (.lst ds) :: r) 21 kl = kl ds := ownLK_of rfl
theorem k_ll22 {a0 a1 a2 a3 a4 a5 a6 a7 a8 a9 a10 a11 a12 a13 a14 a15 a16 a17 a18 a19 a20 a21 : S} : ownLK (a0 :: a1 :: a2 :: a3 :: a4 :: a5 :: a6 :: a7 :: a8 :: a9 :: a10 :: a11 :: a12 :: a13 :: a14 :: a15 :: a16 :: a17 :: a18 :: a19 :: a20 :: a21 :: S.lent (.lst ds) :: r) 22 kl = kl ds := ownLK_of rfl
theorem k_ll23 {a0 a1 a2 a3 a4 a5 a6 a7 a8 a9 a10 a11 a12 a13 a14 a15 a16 a17 a18 a19 a20 a21 a22 : S} : ownLK (a0 :: a1 :: a2 :: a3 :: a4 :: a5 :: a6 :: a7 :: a8 :: a9 :: a10 :: a11 :: a12 :: a13 :: a14 :: a15 :: a16 :: a17 :: a18 :: a19 :: a20 :: a21 :: a22 :: S.lent (.lst ds) :: r) 23 kl = kl ds := ownLK_of rfl
theorem k_ll24 {a0 a1 a2 a3 a4 a5 a6 a7 a8 a9 a10 a11 a12 a13 a14 a15 a16 a17 a18 a19 a20 a21 a22 a23 : S} : ownLK (a0 :: a1 :: a2 :: a3 :: a4 :: a5 :: a6 :: a7 :: a8 :: a9 :: a10 :: a11 :: a12 :: a13 :: a14 :: a15 :: a16 :: a17 :: a18 :: a19 :: a20 :: a21 :: a22 :: a23 :: S.lent (.lst ds) :: r) 24 kl = kl ds := ownLK_of rfl
theorem k_ll25 {a0 a1 a2 a3 a4 a5 a6 a7 a8 a9 a10 a11 a12 a13 a14 a15 a16 a17 a18 a19 a20 a21 a22 a23 a24 : S} : ownLK (a0 :: a1 :: a2 :: a3 :: a4 :: a5 :: a6 :: a7 :: a8 :: a9 :: a10 :: a11 :: a12 :: a13 :: a14 :: a15 :: a16 :: a17 :: a18 :: a19 :: a20 :: a21 :: a22 :: a23 :: a24 :: S.lent (.lst ds) :: r) 25 kl = kl ds := ownLK_of rfl
theorem k_ho0 : hasK (S.own d :: r) 0 p = p := hasK_of rfl
theorem k_ho1 {a0 : S} : hasK (a0 :: S.own d :: r) 1 p = p := hasK_of rfl
theorem k_ho2 {a0 a1 : S} : hasK (a0 :: a1 :: S.own d :: r) 2 p = p := hasK_of rfl
theorem k_ho3 {a0 a1 a2 : S} : hasK (a0 :: a1 :: a2 :: S.own d :: r) 3 p = p := hasK_of rfl
theorem k_ho4 {a0 a1 a2 a3 : S} : hasK (a0 :: a1 :: a2 :: a3 :: S.own d :: r) 4 p = p := hasK_of rfl
theorem k_ho5 {a0 a1 a2 a3 a4 : S} : hasK (a0 :: a1 :: a2 :: a3 :: a4 :: S.own d :: r) 5 p = p := hasK_of rfl
theorem k_ho6 {a0 a1 a2 a3 a4 a5 : S} : hasK (a0 :: a1 :: a2 :: a3 :: a4 :: a5 :: S.own d :: r) 6 p = p := hasK_of rfl
theorem k_ho7 {a0 a1 a2 a3 a4 a5 a6 : S} : hasK (a0 :: a1 :: a2 :: a3 :: a4 :: a5 :: a6 :: S.own d :: r) 7 p = p := hasK_of rfl
theorem k_ho8 {a0 a1 a2 a3 a4 a5 a6 a7 : S} : hasK (a0 :: a1 :: a2 :: a3 :: a4 :: a5 :: a6 :: a7 :: S.own d :: r) 8 p = p := hasK_of rfl
theorem k_ho9 {a0 a1 a2 a3 a4 a5 a6 a7 a8 : S} : hasK (a0 :: a1 :: a2 :: a3 :: a4 :: a5 :: a6 :: a7 :: a8 :: S.own d :: r) 9 p = p := hasK_of rfl
theorem k_ho10 {a0 a1 a2 a3 a4 a5 a6 a7 a8 a9 : S} : hasK (a0 :: a1 :: a2 :: a3 :: a4 :: a5 :: a6 :: a7 :: a8 :: a9 :: S.own d :: r) 10 p = p := hasK_of rfl
theorem k_ho11 {a0 a1 a2 a3 a4 a5 a6 a7 a8 a9 a10 : S} : hasK (a0 :: a1 :: a2 :: a3 :: a4 :: a5 :: a6 :: a7 :: a8 :: a9 :: a10 :: S.own d :: r) 11 p = p := hasK_of rfl
theorem k_ho12 {a0 a1 a2 a3 a4 a5 a6 a7 a8 a9 a10 a11 : S} : hasK (a0 :: a1 :: a2 :: a3 :: a4 :: a5 :: a6 :: a7 :: a8 :: a9 :: a10 :: a11 :: S.own d :: r) 12 p = p := hasK_of rfl
theorem k_ho13 {a0 a1 a2 a3 a4 a5 a6 a7 a8 a9 a10 a11 a12 : S} : hasK (a0 :: a1 :: a2 :: a3 :: a4 :: a5 :: a6 :: a7 :: a8 :: a9 :: a10 :: a11 :: a12 :: S.own d :: r) 13 p = p := hasK_of rfl
theorem k_ho14 {a0 a1 a2 a3 a4 a5 a6 a7 a8 a9 a10 a11 a12 a13 : S} : hasK (a0 :: a1 :: a2 :: a3 :: a4 :: a5 :: a6 :: a7 :: a8 :: a9 :: a10 :: a11 :: a12 :: a13 :: S.own d :: r) 14 p = p := hasK_of rfl
theorem k_ho15 {a0 a1 a2 a3 a4 a5 a6 a7 a8 a9 a10 a11 a12 a13 a14 : S} : hasK (a0 :: a1 :: a2 :: a3 :: a4 :: a5 :: a6 :: a7 :: a8 :: a9 :: a10 :: a11 :: a12 :: a13 :: a14 :: S.own d :: r) 15 p = p := hasK_of rfl
theorem k_ho16 {a0 a1 a2 a3 a4 a5 a6 a7 a8 a9 a10 a11 a12 a13 a14 a15 : S} : hasK (a0 :: a1 :: a2 :: a3 :: a4 :: a5 :: a6 :: a7 :: a8 :: a9 :: a10 :: a11 :: a12 :: a13 :: a14 :: a15 :: S.own d :: r) 16 p = p := hasK_of rfl
theorem k_ho17 {a0 a1 a2 a3 a4 a5 a6 a7 a8 a9 a10 a11 a12 a13 a14 a15 a16 : S} : hasK (a0 :: a1 :: a2 :: a3 :: a4 :: a5 :: a6 :: a7 :: a8 :: a9 :: a10 :: a11 :: a12 :: a13 :: a14 :: a15 :: a16 :: S.own d :: r) 17 p = p := hasK_of rfl
theorem k_ho18 {a0 a1 a2 a3 a4 a5 a6 a7 a8 a9 a10 a11 a12 a13 a14 a15 a16 a17 : S} : hasK (a0 :: a1 :: a2 :: a3 :: a4 :: a5 :: a6 :: a7 :: a8 :: a9 :: a10 :: a11 :: a12 :: a13 :: a14 :: a15 :: a16 :: a17 :: S.own d :: r) 18 p = p := hasK_of rfl
theorem k_ho19 {a0 a1 a2 a3 a4 a5 a6 a7 a8 a9 a10 a11 a12 a13 a14 a15 a16 a17 a18 : S} : hasK (a0 :: a1 :: a2 :: a3 :: a4 :: a5 :: a6 :: a7 :: a8 :: a9 :: a10 :: a11 :: a12 :: a13 :: a14 :: a15 :: a16 :: a17 :: a18 :: S.own d :: r) 19 p = p := hasK_of rfl
theorem k_ho20 {a0 a1 a2 a3 a4 a5 a6 a7 a8 a9 a10 a11 a12 a13 a14 a15 a16 a17 a18 a19 : S} : hasK (a0 :: a1 :: a2 :: a3 :: a4 :: a5 :: a6 :: a7 :: a8 :: a9 :: a10 :: a11 :: a12 :: a13 :: a14 :: a15 :: a16 :: a17 :: a18 :: a19 :: S.own d :: r) 20 p = p := hasK_of rfl
theorem k_ho21 {a0 a1 a2 a3 a4 a5 a6 a7 a8 a9 a10 a11 a12 a13 a14 a15 a16 a17 a18 a19 a20 : S} : hasK (a0 :: a1 :: a2 :: a3 :: a4 :: a5 :: a6 :: a7 :: a8 :: a9 :: a10 :: a11 :: a12 :: a13 :: a14 :: a15 :: a16 :: a17 :: a18 :: a19 :: a20 :: S.own d :: r) 21 p = p := hasK_of rfl
theorem k_ho22 {a0 a1 a2 a3 a4 a5 a6 a7 a8 a9 a10 a11 a12 a13 a14 a15 a16 a17 a18 a19 a20 a21 : S} : hasK (a0 :: a1 :: a2 :: a3 :: a4 :: a5 :: a6 :: a7 :: a8 :: a9 :: a10 :: a11 :: a12 :: a13 :: a14 :: a15 :: a16 :: a17 :: a18 :: a19 :: a20 :: a21 :: S.own d :: r) 22 p = p := hasK_of rfl
theorem k_ho23 {a0 a1 a2 a3 a4 a5 a6 a7 a8 a9 a10 a11 a12 a13 a14 a15 a16 a17 a18 a19 a20 a21 a22 : S} : hasK (a0 :: a1 :: a2 :: a3 :: a4 :: a5 :: a6 :: a7 :: a8 :: a9 :: a10 :: a11 :: a12 :: a13 :: a14 :: a15 :: a16 :: a17 :: a18 :: a19 :: a20 :: a21 :: a22 :: S.own d :: r) 23 p = p := hasK_of rfl
theorem k_ho24 {a0 a1 a2 a3 a4 a5 a6 a7 a8 a9 a10 a11 a12 a13 a14 a15 a16 a17 a18 a19 a20 a21 a22 a23 : S} : hasK (a0 :: a1 :: a2 :: a3 :: a4 :: a5 :: a6 :: a7 :: a8 :: a9 :: a10 :: a11 :: a12 :: a13 :: a14 :: a15 :: a16 :: a17 :: a18 :: a19 :: a20 :: a21 :: a22 :: a23 :: S.own d :: r) 24 p = p := hasK_of rfl
theorem k_ho25 {a0 a1 a2 a3 a4 a5 a6 a7 a8 a9 a10 a11 a12 a13 a14 a15 a16 a17 a18 a19 a20 a21 a22 a23 a24 : S} : hasK (a0 :: a1 :: a2 :: a3 :: a4 :: a5 :: a6 :: a7 :: a8 :: a9 :: a10 :: a11 :: a12 :: a13 :: a14 :: a15 :: a16 :: a17 :: a18 :: a19 :: a20 :: a21 :: a22 :: a23 :: a24 :: S.own d :: r) 25 p = p := hasK_of rfl
theorem k_hl0 : hasK (S.lent d :: r) 0 p = p := hasK_of rfl
theorem k_hl1 {a0 : S} : hasK (a0 :: S.lent d :: r) 1 p = p := hasK_of rfl
theorem k_hl2 {a0 a1 : S} : hasK (a0 :: a1 :: S.lent d :: r) 2 p = p := hasK_of rfl
theorem k_hl3 {a0 a1 a2 : S} : hasK (a0 :: a1 :: a2 :: S.lent d :: r) 3 p = p := hasK_of rfl
theorem k_hl4 {a0 a1 a2 a3 : S} : hasK (a0 :: a1 :: a2 :: a3 :: S.lent d :: r) 4 p = p := hasK_of rfl
theorem k_hl5 {a0 a1 a2 a3 a4 : S} : hasK (a0 :: a1 :: a2 :: a3 :: a4 :: S.lent d :: r) 5 p = p := hasK_of rfl
theorem k_hl6 {a0 a1 a2 a3 a4 a5 : S} : hasK (a0 :: a1 :: a2 :: a3 :: a4 :: a5 :: S.lent d :: r) 6 p = p := hasK_of rfl
theorem k_hl7 {a0 a1 a2 a3 a4 a5 a6 : S} : hasK (a0 :: a1 :: a2 :: a3 :: a4 :: a5 :: a6 :: S.lent d :: r) 7 p = p := hasK_of rfl
theorem k_hl8 {a0 a1 a2 a3 a4 a5 a6 a7 : S} : hasK (a0 :: a1 :: a2 :: a3 :: a4 :: a5 :: a6 :: a7 :: S.lent d :: r) 8 p = p := hasK_of rfl
theorem k_hl9 {a0 a1 a2 a3 a4 a5 a6 a7 a8 : S} : hasK (a0 :: a1 :: a2 :: a3 :: a4 :: a5 :: a6 :: a7 :: a8 :: S.lent d :: r) 9 p = p := hasK_of rfl
theorem k_hl10 {a0 a1 a2 a3 a4 a5 a6 a7 a8 a9 : S} : hasK (a0 :: a1 :: a2 :: a3 :: a4 :: a5 :: a6 :: a7 :: a8 :: a9 :: S.lent d :: r) 10 p = p := hasK_of rfl
theorem k_hl11 {a0 a1 a2 a3 a4 a5 a6 a7 a8 a9 a10 : S} : hasK (a0 :: a1 :: a2 :: a3 :: a4 :: a5 :: a6 :: a7 :: a8 :: a9 :: a10 :: S.lent d :: r) 11 p = p := hasK_of rfl
theorem k_hl12 {a0 a1 a2 a3 a4 a5 a6 a7 a8 a9 a10 a11 : S} : hasK (a0 :: a1 :: a2 :: a3 :: a4 :: a5 :: a6 :: a7 :: a8 :: a9 :: a10 :: a11 :: S.lent d :: r) 12 p = p := hasK_of rfl
theorem k_hl13 {a0 a1 a2 a3 a4 a5 a6 a7 a8 a9 a10 a11 a12 : S} : hasK (a0 :: a1 :: a2 :: a3 :: a4 :: a5 :: a6 :: a7 :: a8 :: a9 :: a10 :: a11 :: a12 :: S.lent d :: r) 13 p = p := hasK_of rfl
theorem k_hl14 {a0 a1 a2 a3 a4 a5 a6 a7 a8 a9 a10 a11 a12 a13 : S} : hasK (a0 :: a1 :: a2 :: a3 :: a4 :: a5 :: a6 :: a7 :: a8 :: a9 :: a10 :: a11 :: a12 :: a13 :: S.lent d :: r) 14 p = p := hasK_of rfl
theorem k_hl15 {a0 a1 a2 a3 a4 a5 a6 a7 a8 a9 a10 a11 a12 a13 a14 : S} : hasK (a0 :: a1 :: a2 :: a3 :: a4 :: a5 :: a6 :: a7 :: a8 :: a9 :: a10 :: a11 :: a12 :: a13 :: a14 :: S.lent d :: r) 15 p = p := hasK_of rfl
theorem k_hl16 {a0 a1 a2 a3 a4 a5 a6 a7 a8 a9 a10 a11 a12 a13 a14 a15 : S} : hasK (a0 :: a1 :: a2 :: a3 :: a4 :: a5 :: a6 :: a7 :: a8 :: a9 :: a10 :: a11 :: a12 :: a13 :: a14 :: a15 :: S.lent d :: r) 16 p = p := hasK_of rfl
theorem k_hl17 {a0 a1 a2 a3 a4 a5 a6 a7 a8 a9 a10 a11 a12 a13 a14 a15 a16 : S} : hasK (a0 :: a1 :: a2 :: a3 :: a4 :: a5 :: a6 :: a7 :: a8 :: a9 :: a10 :: a11 :: a12 :: a13 :: a14 :: a15 :: a16 :: S.lent d :: r) 17 p = p := hasK_of rfl
theorem k_hl18 {a0 a1 a2 a3 a4 a5 a6 a7 a8 a9 a10 a11 a12 a13 a14 a15 a16 a17 : S} : hasK (a0 :: a1 :: a2 :: a3 :: a4 :: a5 :: a6 :: a7 :: a8 :: a9 :: a10 :: a11 :: a12 :: a13 :: a14 :: a15 :: a16 :: a17 :: S.lent d :: r) 18 p = p := hasK_of rfl
theorem k_hl19 {a0 a1 a2 a3 a4 a5 a6 a7 a8 a9 a10 a11 a12 a13 a14 a15 a16 a17 a18 : S} : hasK (a0 :: a1 :: a2 :: a3 :: a4 :: a5 :: a6 :: a7 :: a8 :: a9 :: a10 :: a11 :: a12 :: a13 :: a14 :: a15 :: a16 :: a17 :: a18 :: S.lent d :: r) 19 p = p := hasK_of rfl
theorem k_hl20 {a0 a1 a2 a3 a4 a5 a6 a7 a8 a9 a10 a11 a12 a13 a14 a15 a16 a17 a18 a19 : S} : hasK (a0 :: a1 :: a2 :: a3 :: a4 :: a5 :: a6 :: a7 :: a8 :: a9 :: a10 :: a11 :: a12 :: a13 :: a14 :: a15 :: a16 :: a17 :: a18 :: a19 :: S.lent d :: r) 20 p = p := hasK_of rfl
theorem k_hl21 {a0 a1 a2 a3 a4 a5 a6 a7 a8 a9 a10 a11 a12 a13 a14 a15 a16 a17 a18 a19 a20 : S} : hasK (a0 :: a1 :: a2 :: a3 :: a4 :: a5 :: a6 :: a7 :: a8 :: a9 :: a10 :: a11 :: a12 :: a13 :: a14 :: a15 :: a16 :: a17 :: a18 :: a19 :: a20 :: S.lent d :: r) 21 p = p := hasK_of rfl
theorem k_hl22 {a0 a1 a2 a3 a4 a5 a6 a7 a8 a9 a10 a11 a12 a13 a14 a15 a16 a17 a18 a19 a20 a21 : S} : hasK (a0 :: a1 :: a2 :: a3 :: a4 :: a5 :: a6 :: a7 :: a8 :: a9 :: a10 :: a11 :: a12 :: a13 :: a14 :: a15 :: a16 :: a17 :: a18 :: a19 :: a20 :: a21 :: S.lent d :: r) 22 p = p := hasK_of rfl
theorem k_hl23 {a0 a1 a2 a3 a4 a5 a6 a7 a8 a9 a10 a11 a12 a13 a14 a15 a16 a17 a18 a19 a20 a21 a22 : S} : hasK (a0 :: a1 :: a2 :: a3 :: a4 :: a5 :: a6 :: a7 :: a8 :: a9 :: a10 :: a11 :: a12 :: a13 :: a14 :: a15 :: a16 :: a17 :: a18 :: a19 :: a20 :: a21 :: a22 :: S.lent d :: r) 23 p = p := hasK_of rfl
theorem k_hl24 {a0 a1 a2 a3 a4 a5 a6 a7 a8 a9 a10 a11 a12 a13 a14 a15 a16 a17 a18 a19 a20 a21 a22 a23 : S} : hasK (a0 :: a1 :: a2 :: a3 :: a4 :: a5 :: a6 :: a7 :: a8 :: a9 :: a10 :: a11 :: a12 :: a13 :: a14 :: a15 :: a16 :: a17 :: a18 :: a19 :: a20 :: a21 :: a22 :: a23 :: S.lent d :: r) 24 p = p := hasK_of rfl
theorem k_hl25 {a0 a1 a2 a3 a4 a5 a6 a7 a8 a9 a10 a11 a12 a13 a14 a15 a16 a17 a18 a19 a20 a21 a22 a23 a24 : S} : hasK (a0 :: a1 :: a2 :: a3 :: a4 :: a5 :: a6 :: a7 :: a8 :: a9 :: a10 :: a11 :: a12 :: a13 :: a14 :: a15 :: a16 :: a17 :: a18 :: a19 :: a20 :: a21 :: a22 :: a23 :: a24 :: S.lent d :: r) 25 p = p := hasK_of rfl
theorem k_po0 : putK (S.own e :: r) 0 d k = k (S.own d :: r) := rfl
theorem k_po1 {a0 : S} : putK (a0 :: S.own e :: r) 1 d k = k (a0 :: S.own d :: r) := rfl
theorem k_po2 {a0 a1 : S} : putK (a0 :: a1 :: S.own e :: r) 2 d k = k (a0 :: a1 :: S.own d :: r) := rfl
theorem k_po3 {a0 a1 a2 : S} : putK (a0 :: a1 :: a2 :: S.own e :: r) 3 d k = k (a0 :: a1 :: a2 :: S.own d :: r) := rfl
theorem k_po4 {a0 a1 a2 a3 : S} : putK (a0 :: a1 :: a2 :: a3 :: S.own e :: r) 4 d k = k (a0 :: a1 :: a2 :: a3 :: S.own d :: r) := rfl
theorem k_po5 {a0 a1 a2 a3 a4 : S} : putK (a0 :: a1 :: a2 :: a3 :: a4 :: S.own e :: r) 5 d k = k (a0 :: a1 :: a2 :: a3 :: a4 :: S.own d :: r) := rfl
theorem k_po6 {a0 a1 a2 a3 a4 a5 : S} : putK (a0 :: a1 :: a2 :: a3 :: a4 :: a5 :: S.own e :: r) 6 d k = k (a0 :: a1 :: a2 :: a3 :: a4 :: a5 :: S.own d :: r) := rfl
theorem k_po7 {a0 a1 a2 a3 a4 a5 a6 : S} : putK (a0 :: a1 :: a2 :: a3 :: a4 :: a5 :: a6 :: S.own e :: r) 7 d k = k (a0 :: a1 :: a2 :: a3 :: a4 :: a5 :: a6 :: S.own d :: r) := rfl
theorem k_po8 {a0 a1 a2 a3 a4 a5 a6 a7 : S} : putK (a0 :: a1 :: a2 :: a3 :: a4 :: a5 :: a6 :: a7 :: S.own e :: r) 8 d k = k (a0 :: a1 :: a2 :: a3 :: a4 :: a5 :: a6 :: a7 :: S.own d :: r) := rfl
theorem k_po9 {a0 a1 a2 a3 a4 a5 a6 a7 a8 : S} : putK (a0 :: a1 :: a2 :: a3 :: a4 :: a5 :: a6 :: a7 :: a8 :: S.own e :: r) 9 d k = k (a0 :: a1 :: a2 :: a3 :: a4 :: a5 :: a6 :: a7 :: a8 :: S.own d :: r) := rfl
theorem k_po10 {a0 a1 a2 a3 a4 a5 a6 a7 a8 a9 : S} : putK (a0 :: a1 :: a2 :: a3 :: a4 :: a5 :: a6 :: a7 :: a8 :: a9 :: S.own e :: r) 10 d k = k (a0 :: a1 :: a2 :: a3 :: a4 :: a5 :: a6 :: a7 :: a8 :: a9 :: S.own d :: r) := rfl
theorem k_po11 {a0 a1 a2 a3 a4 a5 a6 a7 a8 a9 a10 : S} : putK (a0 :: a1 :: a2 :: a3 :: a4 :: a5 :: a6 :: a7 :: a8 :: a9 :: a10 :: S.own e :: r) 11 d k = k (a0 :: a1 :: a2 :: a3 :: a4 :: a5 :: a6 :: a7 :: a8 :: a9 :: a10 :: S.own d :: r) := rfl
theorem k_po12 {a0 a1 a2 a3 a4 a5 a6 a7 a8 a9 a10 a11 : S} : putK (a0 :: a1 :: a2 :: a3 :: a4 :: a5 :: a6 :: a7 :: a8 :: a9 :: a10 :: a11 :: S.own e :: r) 12 d k = k (a0 :: a1 :: a2 :: a3 :: a4 :: a5 :: a6 :: a7 :: a8 :: a9 :: a10 :: a11 :: S.own d :: r) := rfl
theorem k_po13 {a0 a1 a2 a3 a4 a5 a6 a7 a8 a9 a10 a11 a12 : S} : putK (a0 :: a1 :: a2 :: a3 :: a4 :: a5 :: a6 :: a7 :: a8 :: a9 :: a10 :: a11 :: a12 :: S.own e :: r) 13 d k = k (a0 :: a1 :: a2 :: a3 :: a4 :: a5 :: a6 :: a7 :: a8 :: a9 :: a10 :: a11 :: a12 :: S.own d :: r) := rfl
theorem k_po14 {a0 a1 a2 a3 a4 a5 a6 a7 a8 a9 a10 a11 a12 a13 : S} : putK (a0 :: a1 :: a2 :: a3 :: a4 :: a5 :: a6 :: a7 :: a8 :: a9 :: a10 :: a11 :: a12 :: a13 :: S.own e :: r) 14 d k = k (a0 :: a1 :: a2 :: a3 :: a4 :: a5 :: a6 :: a7 :: a8 :: a9 :: a10 :: a11 :: a12 :: a13 :: S.own d :: r) := rfl
theorem k_po15 {a0 a1 a2 a3 a4 a5 a6 a7 a8 a9 a10 a11 a12 a13 a14 : S} : putK (a0 :: a1 :: a2 :: a3 :: a4 :: a5 :: a6 :: a7 :: a8 :: a9 :: a10 :: a11 :: a12 :: a13 :: a14 :: S.own e :: r) 15 d k = k (a0 :: a1 :: a2 :: a3 :: a4 :: a5 :: a6 :: a7 :: a8 :: a9 :: a10 :: a11 :: a12 :: a13 :: a14 :: S.own d :: r) := rfl
theorem k_po16 {a0 a1 a2 a3 a4 a5 a6 a7 a8 a9 a10 a11 a12 a13 a14 a15 : S} : putK (a0 :: a1 :: a2 :: a3 :: a4 :: a5 :: a6 :: a7 :: a8 :: a9 :: a10 :: a11 :: a12 :: a13 :: a14 :: a15 :: S.own e :: r) 16 d k = k (a0 :: a1 :: a2 :: a3 :: a4 :: a5 :: a6 :: a7 :: a8 :: a9 :: a10 :: a11 :: a12 :: a13 :: a14 :: a15 :: S.own d :: r) := rfl
theorem k_po17 {a0 a1 a2 a3 a4 a5 a6 a7 a8 a9 a10 a11 a12 a13 a14 a15 a16 : S} : putK (a0 :: a1 :: a2 :: a3 :: a4 :: a5 :: a6 :: a7 :: a8 :: a9 :: a10 :: a11 :: a12 :: a13 :: a14 :: a15 :: a16 :: S.own e :: r) 17 d k = k (a0 :: a1 :: a2 :: a3 :: a4 :: a5 :: a6 :: a7 :: a8 :: a9 :: a10 :: a11 :: a12 :: a13 :: a14 :: a15 :: a16 :: S.own d :: r) := rfl
theorem k_po18 {a0 a1 a2 a3 a4 a5 a6 a7 a8 a9 a10 a11 a12 a13 a14 a15 a16 a17 : S} : putK (a0 :: a1 :: a2 :: a3 :: a4 :: a5 :: a6 :: a7 :: a8 :: a9 :: a10 :: a11 :: a12 :: a13 :: a14 :: a15 :: a16 :: a17 :: S.own e :: r) 18 d k = k (a0 :: a1 :: a2 :: a3 :: a4 :: a5 :: a6 :: a7 :: a8 :: a9 :: a10 :: a11 :: a12 :: a13 :: a14 :: a15 :: a16 :: a17 :: S.own d :: r) := rfl
theorem k_po19 {a0 a1 a2 a3 a4 a5 a6 a7 a8 a9 a10 a11 a12 a13 a14 a15 a16 a17 a18 : S} : putK (a0 :: a1 :: a2 :: a3 :: a4 :: a5 :: a6 :: a7 :: a8 :: a9 :: a10 :: a11 :: a12 :: a13 :: a14 :: a15 :: a16 :: a17 :: a18 :: S.own e :: r) 19 d k = k (a0 :: a1 :: a2 :: a3 :: a4 :: a5 :: a6 :: a7 :: a8 :: a9 :: a10 :: a11 :: a12 :: a13 :: a14 :: a15 :: a16 :: a17 :: a18 :: S.own d :: r) := rfl
theorem k_po20 {a0 a1 a2 a3 a4 a5 a6 a7 a8 a9 a10 a11 a12 a13 a14 a15 a16 a17 a18 a19 : S} : putK (a0 :: a1 :: a2 :: a3 :: a4 :: a5 :: a6 :: a7 :: a8 :: a9 :: a10 :: a11 :: a12 :: a13 :: a14 :: a15 :: a16 :: a17 :: a18 :: a19 :: S.own e :: r) 20 d k = k (a0 :: a1 :: a2 :: a3 :: a4 :: a5 :: a6 :: a7 :: a8 :: a9 :: a10 :: a11 :: a12 :: a13 :: a14 :: a15 :: a16 :: a17 :: a18 :: a19 :: S.own d :: r) := rfl
theorem k_po21 {a0 a1 a2 a3 a4 a5 a6 a7 a8 a9 a10 a11 a12 a13 a14 a15 a16 a17 a18 a19 a20 : S} : putK (a0 :: a1 :: a2 :: a3 :: a4 :: a5 :: a6 :: a7 :: a8 :: a9 :: a10 :: a11 :: a12 :: a13 :: a14 :: a15 :: a16 :: a17 :: a18 :: a19 :: a20 :: S.own e :: r) 21 d k = k (a0 :: a1 :: a2 :: a3 :: a4 :: a5 :: a6 :: a7 :: a8 :: a9 :: a10 :: a11 :: a12 :: a13 :: a14 :: a15 :: a16 :: a17 :: a18 :: a19 :: a20 :: S.own d :: r) := rfl
theorem k_po22 {a0 a1 a2 a3 a4 a5 a6 a7 a8 a9 a10 a11 a12 a13 a14 a15 a16 a17 a18 a19 a20 a21 : S} : putK (a0 :: a1 :: a2 :: a3 :: a4 :: a5 :: a6 :: a7 :: a8 :: a9 :: a10 :: a11 :: a12 :: a13 :: a14 :: a15 :: a16 :: a17 :: a18 :: a19 :: a20 :: a21 :: S.own e :: r) 22 d k = k (a0 :: a1 :: a2 :: a3 :: a4 :: a5 :: a6 :: a7 :: a8 :: a9 :: a10 :: a11 :: a12 :: a13 :: a14 :: a15 :: a16 :: a17 :: a18 :: a19 :: a20 :: a21 :: S.own d :: r) := rfl
theorem k_po23 {a0 a1 a2 a3 a4 a5 a6 a7 a8 a9 a10 a11 a12 a13 a14 a15 a16 a17 a18 a19 a20 a21 a22 : S} : putK (a0 :: a1 :: a2 :: a3 :: a4 :: a5 :: a6 :: a7 :: a8 :: a9 :: a10 :: a11 :: a12 :: a13 :: a14 :: a15 :: a16 :: a17 :: a18 :: a19 :: a20 :: a21 :: a22 :: S.own e :: r) 23 d k = k (a0 :: a1 :: a2 :: a3 :: a4 :: a5 :: a6 :: a7 :: a8 :: a9 :: a10 :: a11 :: a12 :: a13 :: a14 :: a15 :: a16 :: a17 :: a18 :: a19 :: a20 :: a21 :: a22 :: S.own d :: r) := rfl
theorem k_po24 {a0 a1 a2 a3 a4 a5 a6 a7 a8 a9 a10 a11 a12 a13 a14 a15 a16 a17 a18 a19 a20 a21 a22 a23 : S} : putK (a0 :: a1 :: a2 :: a3 :: a4 :: a5 :: a6 :: a7 :: a8 :: a9 :: a10 :: a11 :: a12 :: a13 :: a14 :: a15 :: a16 :: a17 :: a18 :: a19 :: a20 :: a21 :: a22 :: a23 :: S.own e :: r) 24 d k = k (a0 :: a1 :: a2 :: a3 :: a4 :: a5 :: a6 :: a7 :: a8 :: a9 :: a10 :: a11 :: a12 :: a13 :: a14 :: a15 :: a16 :: a17 :: a18 :: a19 :: a20 :: a21 :: a22 :: a23 :: S.own d :: r) := rfl
theorem k_po25 {a0 a1 a2 a3 a4 a5 a6 a7 a8 a9 a10 a11 a12 a13 a14 a15 a16 a17 a18 a19 a20 a21 a22 a23 a24 : S} : putK (a0 :: a1 :: a2 :: a3 :: a4 :: a5 :: a6 :: a7 :: a8 :: a9 :: a10 :: a11 :: a12 :: a13 :: a14 :: a15 :: a16 :: a17 :: a18 :: a19 :: a20 :: a21 :: a22 :: a23 :: a24 :: S.own e :: r) 25 d k = k (a0 :: a1 :: a2 :: a3 :: a4 :: a5 :: a6 :: a7 :: a8 :: a9 :: a10 :: a11 :: a12 :: a13 :: a14 :: a15 :: a16 :: a17 :: a18 :: a19 :: a20 :: a21 :: a22 :: a23 :: a24 :: S.own d :: r) := rfl
theorem k_pl0 : putK (S.lent e :: r) 0 d k = k (S.lent d :: r) := rfl
theorem k_pl1 {a0 : S} : putK (a0 :: S.lent e :: r) 1 d k = k (a0 :: S.lent d :: r) := rfl
theorem k_pl2 {a0 a1 : S} : putK (a0 :: a1 :: S.lent e :: r) 2 d k = k (a0 :: a1 :: S.lent d :: r) := rfl
theorem k_pl3 {a0 a1 a2 : S} : putK (a0 :: a1 :: a2 :: S.lent e :: r) 3 d k = k (a0 :: a1 :: a2 :: S.lent d :: r) := rfl
theorem k_pl4 {a0 a1 a2 a3 : S} : putK (a0 :: a1 :: a2 :: a3 :: S.lent e :: r) 4 d k = k (a0 :: a1 :: a2 :: a3 :: S.lent d :: r) := rfl
theorem k_pl5 {a0 a1 a2 a3 a4 : S} : putK (a0 :: a1 :: a2 :: a3 :: a4 :: S.lent e :: r) 5 d k = k (a0 :: a1 :: a2 :: a3 :: a4 :: S.lent d :: r) := rfl
theorem k_pl6 {a0 a1 a2 a3 a4 a5 : S} : putK (a0 :: a1 :: a2 :: a3 :: a4 :: a5 :: S.lent e :: r) 6 d k = k (a0 :: a1 :: a2 :: a3 :: a4 :: a5 :: S.lent d :: r) := rfl
theorem k_pl7 {a0 a1 a2 a3 a4 a5 a6 : S} : putK (a0 :: a1 :: a2 :: a3 :: a4 :: a5 :: a6 :: S.lent e :: r) 7 d k = k (a0 :: a1 :: a2 :: a3 :: a4 :: a5 :: a6 :: S.lent d :: r) := rfl
theorem k_pl8 {a0 a1 a2 a3 a4 a5 a6 a7 : S} : putK (a0 :: a1 :: a2 :: a3 :: a4 :: a5 :: a6 :: a7 :: S.lent e :: r) 8 d k = k (a0 :: a1 :: a2 :: a3 :: a4 :: a5 :: a6 :: a7 :: S.lent d :: r) := rfl
theorem k_pl9 {a0 a1 a2 a3 a4 a5 a6 a7 a8 : S} : putK (a0 :: a1 :: a2 :: a3 :: a4 :: a5 :: a6 :: a7 :: a8 :: S.lent e :: r) 9 d k = k (a0 :: a1 :: a2 :: a3 :: a4 :: a5 :: a6 :: a7 :: a8 :: S.lent d :: r) := rfl
theorem k_pl10 {a0 a1 a2 a3 a4 a5 a6 a7 a8 a9 : S} : putK (a0 :: a1 :: a2 :: a3 :: a4 :: a5 :: a6 :: a7 :: a8 :: a9 :: S.lent e :: r) 10 d k = k (a0 :: a1 :: a2 :: a3 :: a4 :: a5 :: a6 :: a7 :: a8 :: a9 :: S.lent d :: r) := rfl
theorem k_pl11 {a0 a1 a2 a3 a4 a5 a6 a7 a8 a9 a10 : S} : putK (a0 :: a1 :: a2 :: a3 :: a4 :: a5 :: a6 :: a7 :: a8 :: a9 :: a10 :: S.lent e :: r) 11 d k = k (a0 :: a1 :: a2 :: a3 :: a4 :: a5 :: a6 :: a7 :: a8 :: a9 :: a10 :: S.lent d :: r) := rfl
theorem k_pl12 {a0 a1 a2 a3 a4 a5 a6 a7 a8 a9 a10 a11 : S} : putK (a0 :: a1 :: a2 :: a3 :: a4 :: a5 :: a6 :: a7 :: a8 :: a9 :: a10 :: a11 :: S.lent e :: r) 12 d k = k (a0 :: a1 :: a2 :: a3 :: a4 :: a5 :: a6 :: a7 :: a8 :: a9 :: a10 :: a11 :: S.lent d :: r) := rfl
theorem k_pl13 {a0 a1 a2 a3 a4 a5 a6 a7 a8 a9 a10 a11 a12 : S} : putK (a0 :: a1 :: a2 :: a3 :: a4 :: a5 :: a6 :: a7 :: a8 :: a9 :: a10 :: a11 :: a12 :: S.lent e :: r) 13 d k = k (a0 :: a1 :: a2 :: a3 :: a4 :: a5 :: a6 :: a7 :: a8 :: a9 :: a10 :: a11 :: a12 :: S.lent d :: r) := rfl
theorem k_pl14 {a0 a1 a2 a3 a4 a5 a6 a7 a8 a9 a10 a11 a12 a13 : S} : putK (a0 :: a1 :: a2 :: a3 :: a4 :: a5 :: a6 :: a7 :: a8 :: a9 :: a10 :: a11 :: a12 :: a13 :: S.lent e :: r) 14 d k = k (a0 :: a1 :: a2 :: a3 :: a4 :: a5 :: a6 :: a7 :: a8 :: a9 :: a10 :: a11 :: a12 :: a13 :: S.lent d :: r) := rfl
theorem k_pl15 {a0 a1 a2 a3 a4 a5 a6 a7 a8 a9 a10 a11 a12 a13 a14 : S} : putK (a0 :: a1 :: a2 :: a3 :: a4 :: a5 :: a6 :: a7 :: a8 :: a9 :: a10 :: a11 :: a12 :: a13 :: a14 :: S.lent e :: r) 15 d k = k (a0 :: a1 :: a2 :: a3 :: a4 :: a5 :: a6 :: a7 :: a8 :: a9 :: a10 :: a11 :: a12 :: a13 :: a14 :: S.lent d :: r) := rfl
theorem k_pl16 {a0 a1 a2 a3 a4 a5 a6 a7 a8 a9 a10 a11 a12 a13 a14 a15 : S} : putK (a0 :: a1 :: a2 :: a3 :: a4 :: a5 :: a6 :: a7 :: a8 :: a9 :: a10 :: a11 :: a12 :: a13 :: a14 :: a15 :: S.lent e :: r) 16 d k = k (a0 :: a1 :: a2 :: a3 :: a4 :: a5 :: a6 :: a7 :: a8 :: a9 :: a10 :: a11 :: a12 :: a13 :: a14 :: a15 :: S.lent d :: r) := rfl
theorem k_pl17 {a0 a1 a2 a3 a4 a5 a6 a7 a8 a9 a10 a11 a12 a13 a14 a15 a16 : S} : putK (a0 :: a1 :: a2 :: a3 :: a4 :: a5 :: a6 :: a7 :: a8 :: a9 :: a10 :: a11 :: a12 :: a13 :: a14 :: a15 :: a16 :: S.lent e :: r) 17 d k = k (a0 :: a1 :: a2 :: a3 :: a4 :: a5 :: a6 :: a7 :: a8 :: a9 :: a10 :: a11 :: a12 :: a13 :: a14 :: a15 :: a16 :: S.lent d :: r) := rfl
theorem k_pl18 {a0 a1 a2 a3 a4 a5 a6 a7 a8 a9 a10 a11 a12 a13 a14 a15 a16 a17 : S} : putK (a0 :: a1 :: a2 :: a3 :: a4 :: a5 :: a6 :: a7 :: a8 :: a9 :: a10 :: a11 :: a12 :: a13 :: a14 :: a15 :: a16 :: a17 :: S.lent e :: r) 18 d k = k (a0 :: a1 :: a2 :: a3 :: a4 :: a5 :: a6 :: a7 :: a8 :: a9 :: a10 :: a11 :: a12 :: a13 :: a14 :: a15 :: a16 :: a17 :: S.lent d :: r) := rfl
theorem k_pl19 {a0 a1 a2 a3 a4 a5 a6 a7 a8 a9 a10 a11 a12 a13 a14 a15 a16 a17 a18 : S} : putK (a0 :: a1 :: a2 :: a3 :: a4 :: a5 :: a6 :: a7 :: a8 :: a9 :: a10 :: a11 :: a12 :: a13 :: a14 :: a15 :: a16 :: a17 :: a18 :: S.lent e :: r) 19 d k = k (a0 :: a1 :: a2 :: a3 :: a4 :: a5 :: a6 :: a7 :: a8 :: a9 :: a10 :: a11 :: a12 :: a13 :: a14 :: a15 :: a16 :: a17 :: a18 :: S.lent d :: r) := rfl
theorem k_pl20 {a0 a1 a2 a3 a4 a5 a6 a7 a8 a9 a10 a11 a12 a13 a14 a15 a16 a17 a18 a19 : S} : putK (a0 :: a1 :: a2 :: a3 :: a4 :: a5 :: a6 :: a7 :: a8 :: a9 :: a10 :: a11 :: a12 :: a13 :: a14 :: a15 :: a16 :: a17 :: a18 :: a19 :: S.lent e :: r) 20 d k = k (a0 :: a1 :: a2 :: a3 :: a4 :: a5 :: a6 :: a7 :: a8 :: a9 :: a10 :: a11 :: a12 :: a13 :: a14 :: a15 :: a16 :: a17 :: a18 :: a19 :: S.lent d :: r) := rfl
theorem k_pl21 {a0 a1 a2 a3 a4 a5 a6 a7 a8 a9 a10 a11 a12 a13 a14 a15 a16 a17 a18 a19 a20 : S} : putK (a0 :: a1 :: a2 :: a3 :: a4 :: a5 :: a6 :: a7 :: a8 :: a9 :: a10 :: a11 :: a12 :: a13 :: a14 :: a15 :: a16 :: a17 :: a18 :: a19 :: a20 :: S.lent e :: r) 21 d k = k (a0 :: a1 :: a2 :: a3 :: a4 :: a5 :: a6 :: a7 :: a8 :: a9 :: a10 :: a11 :: a12 :: a13 :: a14 :: a15 :: a16 :: a17 :: a18 :: a19 :: a20 :: S.lent d :: r) := rfl
theorem k_pl22 {a0 a1 a2 a3 a4 a5 a6 a7 a8 a9 a10 a11 a12 a13 a14 a15 a16 a17 a18 a19 a20 a21 : S} : putK (a0 :: a1 :: a2 :: a3 :: a4 :: a5 :: a6 :: a7 :: a8 :: a9 :: a10 :: a11 :: a12 :: a13 :: a14 :: a15 :: a16 :: a17 :: a18 :: a19 :: a20 :: a21 :: S.lent e :: r) 22 d k = k (a0 :: a1 :: a2 :: a3 :: a4 :: a5 :: a6 :: a7 :: a8 :: a9 :: a10 :: a11 :: a12 :: a13 :: a14 :: a15 :: a16 :: a17 :: a18 :: a19 :: a20 :: a21 :: S.lent d :: r) := rfl
theorem k_pl23 {a0 a1 a2 a3 a4 a5 a6 a7 a8 a9 a10 a11 a12 a13 a14 a15 a16 a17 a18 a19 a20 a21 a22 : S} : putK (a0 :: a1 :: a2 :: a3 :: a4 :: a5 :: a6 :: a7 :: a8 :: a9 :: a10 :: a11 :: a12 :: a13 :: a14 :: a15 :: a16 :: a17 :: a18 :: a19 :: a20 :: a21 :: a22 :: S.lent e :: r) 23 d k = k (a0 :: a1 :: a2 :: a3 :: a4 :: a5 :: a6 :: a7 :: a8 :: a9 :: a10 :: a11 :: a12 :: a13 :: a14 :: a15 :: a16 :: a17 :: a18 :: a19 :: a20 :: a21 :: a22 :: S.lent d :: r) := rfl
theorem k_pl24 {a0 a1 a2 a3 a4 a5 a6 a7 a8 a9 a10 a11 a12 a13 a14 a15 a16 a17 a18 a19 a20 a21 a22 a23 : S} : putK (a0 :: a1 :: a2 :: a3 :: a4 :: a5 :: a6 :: a7 :: a8 :: a9 :: a10 :: a11 :: a12 :: a13 :: a14 :: a15 :: a16 :: a17 :: a18 :: a19 :: a20 :: a21 :: a22 :: a23 :: S.lent e :: r) 24 d k = k (a0 :: a1 :: a2 :: a3 :: a4 :: a5 :: a6 :: a7 :: a8 :: a9 :: a10 :: a11 :: a12 :: a13 :: a14 :: a15 :: a16 :: a17 :: a18 :: a19 :: a20 :: a21 :: a22 :: a23 :: S.lent d :: r) := rfl
theorem k_pl25 {a0 a1 a2 a3 a4 a5 a6 a7 a8 a9 a10 a11 a12 a13 a14 a15 a16 a17 a18 a19 a20 a21 a22 a23 a24 : S} : putK (a0 :: a1 :: a2 :: a3 :: a4 :: a5 :: a6 :: a7 :: a8 :: a9 :: a10 :: a11 :: a12 :: a13 :: a14 :: a15 :: a16 :: a17 :: a18 :: a19 :: a20 :: a21 :: a22 :: a23 :: a24 :: S.lent e :: r) 25 d k = k (a0 :: a1 :: a2 :: a3 :: a4 :: a5 :: a6 :: a7 :: a8 :: a9 :: a10 :: a11 :: a12 :: a13 :: a14 :: a15 :: a16 :: a17 :: a18 :: a19 :: a20 :: a21 :: a22 :: a23 :: a24 :: S.lent d :: r) := rfl
theorem k_kk0 : keepK (s :: r) 0 ks = ks (keepV (some s)) := rfl
theorem k_kk1 {a0 : S} : keepK (a0 :: s :: r) 1 ks = ks (keepV (some s)) := rfl
theorem k_kk2 {a0 a1 : S} : keepK (a0 :: a1 :: s :: r) 2 ks = ks (keepV (some s)) := rfl
theorem k_kk3 {a0 a1 a2 : S} : keepK (a0 :: a1 :: a2 :: s :: r) 3 ks = ks (keepV (some s)) := rfl
theorem k_kk4 {a0 a1 a2 a3 : S} : keepK (a0 :: a1 :: a2 :: a3 :: s :: r) 4 ks = ks (keepV (some s)) := rfl
theorem k_kk5 {a0 a1 a2 a3 a4 : S} : keepK (a0 :: a1 :: a2 :: a3 :: a4 :: s :: r) 5 ks = ks (keepV (some s)) := rfl
theorem k_kk6 {a0 a1 a2 a3 a4 a5 : S} : keepK (a0 :: a1 :: a2 :: a3 :: a4 :: a5 :: s :: r) 6 ks = ks (keepV (some s)) := rfl
theorem k_kk7 {a0 a1 a2 a3 a4 a5 a6 : S} : keepK (a0 :: a1 :: a2 :: a3 :: a4 :: a5 :: a6 :: s :: r) 7 ks = ks (keepV (some s)) := rfl
theorem k_kk8 {a0 a1 a2 a3 a4 a5 a6 a7 : S} : keepK (a0 :: a1 :: a2 :: a3 :: a4 :: a5 :: a6 :: a7 :: s :: r) 8 ks = ks (keepV (some s)) := rfl
theorem k_kk9 {a0 a1 a2 a3 a4 a5 a6 a7 a8 : S} : keepK (a0 :: a1 :: a2 :: a3 :: a4 :: a5 :: a6 :: a7 :: a8 :: s :: r) 9 ks = ks (keepV (some s)) := rfl
theorem k_kk10 {a0 a1 a2 a3 a4 a5 a6 a7 a8 a9 : S} : keepK (a0 :: a1 :: a2 :: a3 :: a4 :: a5 :: a6 :: a7 :: a8 :: a9 :: s :: r) 10 ks = ks (keepV (some s)) := rfl
theorem k_kk11 {a0 a1 a2 a3 a4 a5 a6 a7 a8 a9 a10 : S} : keepK (a0 :: a1 :: a2 :: a3 :: a4 :: a5 :: a6 :: a7 :: a8 :: a9 :: a10 :: s :: r) 11 ks = ks (keepV (some s)) := rfl
theorem k_kk12 {a0 a1 a2 a3 a4 a5 a6 a7 a8 a9 a10 a11 : S} : keepK (a0 :: a1 :: a2 :: a3 :: a4 :: a5 :: a6 :: a7 :: a8 :: a9 :: a10 :: a11 :: s :: r) 12 ks = ks (keepV (some s)) := rfl
theorem k_kk13 {a0 a1 a2 a3 a4 a5 a6 a7 a8 a9 a10 a11 a12 : S} : keepK (a0 :: a1 :: a2 :: a3 :: a4 :: a5 :: a6 :: a7 :: a8 :: a9 :: a10 :: a11 :: a12 :: s :: r) 13 ks = ks (keepV (some s)) := rfl
theorem k_kk14 {a0 a1 a2 a3 a4 a5 a6 a7 a8 a9 a10 a11 a12 a13 : S} : keepK (a0 :: a1 :: a2 :: a3 :: a4 :: a5 :: a6 :: a7 :: a8 :: a9 :: a10 :: a11 :: a12 :: a13 :: s :: r) 14 ks = ks (keepV (some s)) := rfl
theorem k_kk15 {a0 a1 a2 a3 a4 a5 a6 a7 a8 a9 a10 a11 a12 a13 a14 : S} : keepK (a0 :: a1 :: a2 :: a3 :: a4 :: a5 :: a6 :: a7 :: a8 :: a9 :: a10 :: a11 :: a12 :: a13 :: a14 :: s :: r) 15 ks = ks (keepV (some s)) := rfl
theorem k_kk16 {a0 a1 a2 a3 a4 a5 a6 a7 a8 a9 a10 a11 a12 a13 a14 a15 : S} : keepK (a0 :: a1 :: a2 :: a3 :: a4 :: a5 :: a6 :: a7 :: a8 :: a9 :: a10 :: a11 :: a12 :: a13 :: a14 :: a15 :: s :: r) 16 ks = ks (keepV (some s)) := rfl
theorem k_kk17 {a0 a1 a2 a3 a4 a5 a6 a7 a8 a9 a10 a11 a12 a13 a14 a15 a16 : S} : keepK (a0 :: a1 :: a2 :: a3 :: a4 :: a5 :: a6 :: a7 :: a8 :: a9 :: a10 :: a11 :: a12 :: a13 :: a14 :: a15 :: a16 :: s :: r) 17 ks = ks (keepV (some s)) := rfl
theorem k_kk18 {a0 a1 a2 a3 a4 a5 a6 a7 a8 a9 a10 a11 a12 a13 a14 a15 a16 a17 : S} : keepK (a0 :: a1 :: a2 :: a3 :: a4 :: a5 :: a6 :: a7 :: a8 :: a9 :: a10 :: a11 :: a12 :: a13 :: a14 :: a15 :: a16 :: a17 :: s :: r) 18 ks = ks (keepV (some s)) := rfl
theorem k_kk19 {a0 a1 a2 a3 a4 a5 a6 a7 a8 a9 a10 a11 a12 a13 a14 a15 a16 a17 a18 : S} : keepK (a0 :: a1 :: a2 :: a3 :: a4 :: a5 :: a6 :: a7 :: a8 :: a9 :: a10 :: a11 :: a12 :: a13 :: a14 :: a15 :: a16 :: a17 :: a18 :: s :: r) 19 ks = ks (keepV (some s)) := rfl
theorem k_kk20 {a0 a1 a2 a3 a4 a5 a6 a7 a8 a9 a10 a11 a12 a13 a14 a15 a16 a17 a18 a19 : S} : keepK (a0 :: a1 :: a2 :: a3 :: a4 :: a5 :: a6 :: a7 :: a8 :: a9 :: a10 :: a11 :: a12 :: a13 :: a14 :: a15 :: a16 :: a17 :: a18 :: a19 :: s :: r) 20 ks = ks (keepV (some s)) := rfl
theorem k_kk21 {a0 a1 a2 a3 a4 a5 a6 a7 a8 a9 a10 a11 a12 a13 a14 a15 a16 a17 a18 a19 a20 : S} : keepK (a0 :: a1 :: a2 :: a3 :: a4 :: a5 :: a6 :: a7 :: a8 :: a9 :: a10 :: a11 :: a12 :: a13 :: a14 :: a15 :: a16 :: a17 :: a18 :: a19 :: a20 :: s :: r) 21 ks = ks (keepV (some s)) := rfl
theorem k_kk22 {a0 a1 a2 a3 a4 a5 a6 a7 a8 a9 a10 a11 a12 a13 a14 a15 a16 a17 a18 a19 a20 a21 : S} : keepK (a0 :: a1 :: a2 :: a3 :: a4 :: a5 :: a6 :: a7 :: a8 :: a9 :: a10 :: a11 :: a12 :: a13 :: a14 :: a15 :: a16 :: a17 :: a18 :: a19 :: a20 :: a21 :: s :: r) 22 ks = ks (keepV (some s)) := rfl
theorem k_kk23 {a0 a1 a2 a3 a4 a5 a6 a7 a8 a9 a10 a11 a12 a13 a14 a15 a16 a17 a18 a19 a20 a21 a22 : S} : keepK (a0 :: a1 :: a2 :: a3 :: a4 :: a5 :: a6 :: a7 :: a8 :: a9 :: a10 :: a11 :: a12 :: a13 :: a14 :: a15 :: a16 :: a17 :: a18 :: a19 :: a20 :: a21 :: a22 :: s :: r) 23 ks = ks (keepV (some s)) := rfl
theorem k_kk24 {a0 a1 a2 a3 a4 a5 a6 a7 a8 a9 a10 a11 a12 a13 a14 a15 a16 a17 a18 a19 a20 a21 a22 a23 : S} : keepK (a0 :: a1 :: a2 :: a3 :: a4 :: a5 :: a6 :: a7 :: a8 :: a9 :: a10 :: a11 :: a12 :: a13 :: a14 :: a15 :: a16 :: a17 :: a18 :: a19 :: a20 :: a21 :: a22 :: a23 :: s :: r) 24 ks = ks (keepV (some s)) := rfl
theorem k_kk25 {a0 a1 a2 a3 a4 a5 a6 a7 a8 a9 a10 a11 a12 a13 a14 a15 a16 a17 a18 a19 a20 a21 a22 a23 a24 : S} : keepK (a0 :: a1 :: a2 :: a3 :: a4 :: a5 :: a6 :: a7 :: a8 :: a9 :: a10 :: a11 :: a12 :: a13 :: a14 :: a15 :: a16 :: a17 :: a18 :: a19 :: a20 :: a21 :: a22 :: a23 :: a24 :: s :: r) 25 ks = ks (keepV (some s)) := rfl
theorem k_nv0 : dNIx 0 fe (S.v d :: r) Q X = fe (S.v d :: r) (fun j δ1 => rdK δ1 0 fun d => gIx d j fun z => Q z δ1) X := by rw [q_nix]; simp [rdAt]
theorem k_nv1 {a0 : S} : dNIx 1 fe (a0 :: S.v d :: r) Q X = fe (a0 :: S.v d :: r) (fun j δ1 => rdK δ1 1 fun d => gIx d j fun z => Q z δ1) X := by rw [q_nix]; simp [rdAt]
theorem k_nv2 {a0 a1 : S} : dNIx 2 fe (a0 :: a1 :: S.v d :: r) Q X = fe (a0 :: a1 :: S.v d :: r) (fun j δ1 => rdK δ1 2 fun d => gIx d j fun z => Q z δ1) X := by rw [q_nix]; simp [rdAt]
theorem k_nv3 {a0 a1 a2 : S} : dNIx 3 fe (a0 :: a1 :: a2 :: S.v d :: r) Q X = fe (a0 :: a1 :: a2 :: S.v d :: r) (fun j δ1 => rdK δ1 3 fun d => gIx d j fun z => Q z δ1) X := by rw [q_nix]; simp [rdAt]
theorem k_nv4 {a0 a1 a2 a3 : S} : dNIx 4 fe (a0 :: a1 :: a2 :: a3 :: S.v d :: r) Q X = fe (a0 :: a1 :: a2 :: a3 :: S.v d :: r) (fun j δ1 => rdK δ1 4 fun d => gIx d j fun z => Q z δ1) X := by rw [q_nix]; simp [rdAt]
theorem k_nv5 {a0 a1 a2 a3 a4 : S} : dNIx 5 fe (a0 :: a1 :: a2 :: a3 :: a4 :: S.v d :: r) Q X = fe (a0 :: a1 :: a2 :: a3 :: a4 :: S.v d :: r) (fun j δ1 => rdK δ1 5 fun d => gIx d j fun z => Q z δ1) X := by rw [q_nix]; simp [rdAt]
theorem k_nv6 {a0 a1 a2 a3 a4 a5 : S} : dNIx 6 fe (a0 :: a1 :: a2 :: a3 :: a4 :: a5 :: S.v d :: r) Q X = fe (a0 :: a1 :: a2 :: a3 :: a4 :: a5 :: S.v d :: r) (fun j δ1 => rdK δ1 6 fun d => gIx d j fun z => Q z δ1) X := by rw [q_nix]; simp [rdAt]
theorem k_nv7 {a0 a1 a2 a3 a4 a5 a6 : S} : dNIx 7 fe (a0 :: a1 :: a2 :: a3 :: a4 :: a5 :: a6 :: S.v d :: r) Q X = fe (a0 :: a1 :: a2 :: a3 :: a4 :: a5 :: a6 :: S.v d :: r) (fun j δ1 => rdK δ1 7 fun d => gIx d j fun z => Q z δ1) X := by rw [q_nix]; simp [rdAt]
theorem k_nv8 {a0 a1 a2 a3 a4 a5 a6 a7 : S} : dNIx 8 fe (a0 :: a1 :: a2 :: a3 :: a4 :: a5 :: a6 :: a7 :: S.v d :: r) Q X = fe (a0 :: a1 :: a2 :: a3 :: a4 :: a5 :: a6 :: a7 :: S.v d :: r) (fun j δ1 => rdK δ1 8 fun d => gIx d j fun z => Q z δ1) X := by rw [q_nix]; simp [rdAt]
theorem k_nv9 {a0 a1 a2 a3 a4 a5 a6 a7 a8 : S} : dNIx 9 fe (a0 :: a1 :: a2 :: a3 :: a4 :: a5 :: a6 :: a7 :: a8 :: S.v d :: r) Q X = fe (a0 :: a1 :: a2 :: a3 :: a4 :: a5 :: a6 :: a7 :: a8 :: S.v d :: r) (fun j δ1 => rdK δ1 9 fun d => gIx d j fun z => Q z δ1) X := by rw [q_nix]; simp [rdAt]
theorem k_nv10 {a0 a1 a2 a3 a4 a5 a6 a7 a8 a9 : S} : dNIx 10 fe (a0 :: a1 :: a2 :: a3 :: a4 :: a5 :: a6 :: a7 :: a8 :: a9 :: S.v d :: r) Q X = fe (a0 :: a1 :: a2 :: a3 :: a4 :: a5 :: a6 :: a7 :: a8 :: a9 :: S.v d :: r) (fun j δ1 => rdK δ1 10 fun d => gIx d j fun z => Q z δ1) X := by rw [q_nix]; simp [rdAt]
theorem k_nv11 {a0 a1 a2 a3 a4 a5 a6 a7 a8 a9 a10 : S} : dNIx 11 fe (a0 :: a1 :: a2 :: a3 :: a4 :: a5 :: a6 :: a7 :: a8 :: a9 :: a10 :: S.v d :: r) Q X = fe (a0 :: a1 :: a2 :: a3 :: a4 :: a5 :: a6 :: a7 :: a8 :: a9 :: a10 :: S.v d :: r) (fun j δ1 => rdK δ1 11 fun d => gIx d j fun z => Q z δ1) X := by rw [q_nix]; simp [rdAt]
theorem k_nv12 {a0 a1 a2 a3 a4 a5 a6 a7 a8 a9 a10 a11 : S} : dNIx 12 fe (a0 :: a1 :: a2 :: a3 :: a4 :: a5 :: a6 :: a7 :: a8 :: a9 :: a10 :: a11 :: S.v d :: r) Q X = fe (a0 :: a1 :: a2 :: a3 :: a4 :: a5 :: a6 :: a7 :: a8 :: a9 :: a10 :: a11 :: S.v d :: r) (fun j δ1 => rdK δ1 12 fun d => gIx d j fun z => Q z δ1) X := by rw [q_nix]; simp [rdAt]
theorem k_nv13 {a0 a1 a2 a3 a4 a5 a6 a7 a8 a9 a10 a11 a12 : S} : dNIx 13 fe (a0 :: a1 :: a2 :: a3 :: a4 :: a5 :: a6 :: a7 :: a8 :: a9 :: a10 :: a11 :: a12 :: S.v d :: r) Q X = fe (a0 :: a1 :: a2 :: a3 :: a4 :: a5 :: a6 :: a7 :: a8 :: a9 :: a10 :: a11 :: a12 :: S.v d :: r) (fun j δ1 => rdK δ1 13 fun d => gIx d j fun z => Q z δ1) X := by rw [q_nix]; simp [rdAt]
theorem k_nv14 {a0 a1 a2 a3 a4 a5 a6 a7 a8 a9 a10 a11 a12 a13 : S} : dNIx 14 fe (a0 :: a1 :: a2 :: a3 :: a4 :: a5 :: a6 :: a7 :: a8 :: a9 :: a10 :: a11 :: a12 :: a13 :: S.v d :: r) Q X = fe (a0 :: a1 :: a2 :: a3 :: a4 :: a5 :: a6 :: a7 :: a8 :: a9 :: a10 :: a11 :: a12 :: a13 :: S.v d :: r) (fun j δ1 => rdK δ1 14 fun d => gIx d j fun z => Q z δ1) X := by rw [q_nix]; simp [rdAt]
theorem k_nv15 {a0 a1 a2 a3 a4 a5 a6 a7 a8 a9 a10 a11 a12 a13 a14 : S} : dNIx 15 fe (a0 :: a1 :: a2 :: a3 :: a4 :: a5 :: a6 :: a7 :: a8 :: a9 :: a10 :: a11 :: a12 :: a13 :: a14 :: S.v d :: r) Q X = fe (a0 :: a1 :: a2 :: a3 :: a4 :: a5 :: a6 :: a7 :: a8 :: a9 :: a10 :: a11 :: a12 :: a13 :: a14 :: S.v d :: r) (fun j δ1 => rdK δ1 15 fun d => gIx d j fun z => Q z δ1) X := by rw [q_nix]; simp [rdAt]
theorem k_nv16 {a0 a1 a2 a3 a4 a5 a6 a7 a8 a9 a10 a11 a12 a13 a14 a15 : S} : dNIx 16 fe (a0 :: a1 :: a2 :: a3 :: a4 :: a5 :: a6 :: a7 :: a8 :: a9 :: a10 :: a11 :: a12 :: a13 :: a14 :: a15 :: S.v d :: r) Q X = fe (a0 :: a1 :: a2 :: a3 :: a4 :: a5 :: a6 :: a7 :: a8 :: a9 :: a10 :: a11 :: a12 :: a13 :: a14 :: a15 :: S.v d :: r) (fun j δ1 => rdK δ1 16 fun d => gIx d j fun z => Q z δ1) X := by rw [q_nix]; simp [rdAt]
theorem k_nv17 {a0 a1 a2 a3 a4 a5 a6 a7 a8 a9 a10 a11 a12 a13 a14 a15 a16 : S} : dNIx 17 fe (a0 :: a1 :: a2 :: a3 :: a4 :: a5 :: a6 :: a7 :: a8 :: a9 :: a10 :: a11 :: a12 :: a13 :: a14 :: a15 :: a16 :: S.v d :: r) Q X = fe (a0 :: a1 :: a2 :: a3 :: a4 :: a5 :: a6 :: a7 :: a8 :: a9 :: a10 :: a11 :: a12 :: a13 :: a14 :: a15 :: a16 :: S.v d :: r) (fun j δ1 => rdK δ1 17 fun d => gIx d j fun z => Q z δ1) X := by rw [q_nix]; simp [rdAt]
theorem k_nv18 {a0 a1 a2 a3 a4 a5 a6 a7 a8 a9 a10 a11 a12 a13 a14 a15 a16 a17 : S} : dNIx 18 fe (a0 :: a1 :: a2 :: a3 :: a4 :: a5 :: a6 :: a7 :: a8 :: a9 :: a10 :: a11 :: a12 :: a13 :: a14 :: a15 :: a16 :: a17 :: S.v d :: r) Q X = fe (a0 :: a1 :: a2 :: a3 :: a4 :: a5 :: a6 :: a7 :: a8 :: a9 :: a10 :: a11 :: a12 :: a13 :: a14 :: a15 :: a16 :: a17 :: S.v d :: r) (fun j δ1 => rdK δ1 18 fun d => gIx d j fun z => Q z δ1) X := by rw [q_nix]; simp [rdAt]
theorem k_nv19 {a0 a1 a2 a3 a4 a5 a6 a7 a8 a9 a10 a11 a12 a13 a14 a15 a16 a17 a18 : S} : dNIx 19 fe (a0 :: a1 :: a2 :: a3 :: a4 :: a5 :: a6 :: a7 :: a8 :: a9 :: a10 :: a11 :: a12 :: a13 :: a14 :: a15 :: a16 :: a17 :: a18 :: S.v d :: r) Q X = fe (a0 :: a1 :: a2 :: a3 :: a4 :: a5 :: a6 :: a7 :: a8 :: a9 :: a10 :: a11 :: a12 :: a13 :: a14 :: a15 :: a16 :: a17 :: a18 :: S.v d :: r) (fun j δ1 => rdK δ1 19 fun d => gIx d j fun z => Q z δ1) X := by rw [q_nix]; simp [rdAt]
theorem k_nv20 {a0 a1 a2 a3 a4 a5 a6 a7 a8 a9 a10 a11 a12 a13 a14 a15 a16 a17 a18 a19 : S} : dNIx 20 fe (a0 :: a1 :: a2 :: a3 :: a4 :: a5 :: a6 :: a7 :: a8 :: a9 :: a10 :: a11 :: a12 :: a13 :: a14 :: a15 :: a16 :: a17 :: a18 :: a19 :: S.v d :: r) Q X = fe (a0 :: a1 :: a2 :: a3 :: a4 :: a5 :: a6 :: a7 :: a8 :: a9 :: a10 :: a11 :: a12 :: a13 :: a14 :: a15 :: a16 :: a17 :: a18 :: a19 :: S.v d :: r) (fun j δ1 => rdK δ1 20 fun d => gIx d j fun z => Q z δ1) X := by rw [q_nix]; simp [rdAt]
theorem k_nv21 {a0 a1 a2 a3 a4 a5 a6 a7 a8 a9 a10 a11 a12 a13 a14 a15 a16 a17 a18 a19 a20 : S} : dNIx 21 fe (a0 :: a1 :: a2 :: a3 :: a4 :: a5 :: a6 :: a7 :: a8 :: a9 :: a10 :: a11 :: a12 :: a13 :: a14 :: a15 :: a16 :: a17 :: a18 :: a19 :: a20 :: S.v d :: r) Q X = fe (a0 :: a1 :: a2 :: a3 :: a4 :: a5 :: a6 :: a7 :: a8 :: a9 :: a10 :: a11 :: a12 :: a13 :: a14 :: a15 :: a16 :: a17 :: a18 :: a19 :: a20 :: S.v d :: r) (fun j δ1 => rdK δ1 21 fun d => gIx d j fun z => Q z δ1) X := by rw [q_nix]; simp [rdAt]
theorem k_nv22 {a0 a1 a2 a3 a4 a5 a6 a7 a8 a9 a10 a11 a12 a13 a14 a15 a16 a17 a18 a19 a20 a21 : S} : dNIx 22 fe (a0 :: a1 :: a2 :: a3 :: a4 :: a5 :: a6 :: a7 :: a8 :: a9 :: a10 :: a11 :: a12 :: a13 :: a14 :: a15 :: a16 :: a17 :: a18 :: a19 :: a20 :: a21 :: S.v d :: r) Q X = fe (a0 :: a1 :: a2 :: a3 :: a4 :: a5 :: a6 :: a7 :: a8 :: a9 :: a10 :: a11 :: a12 :: a13 :: a14 :: a15 :: a16 :: a17 :: a18 :: a19 :: a20 :: a21 :: S.v d :: r) (fun j δ1 => rdK δ1 22 fun d => gIx d j fun z => Q z δ1) X := by rw [q_nix]; simp [rdAt]
theorem k_nv23 {a0 a1 a2 a3 a4 a5 a6 a7 a8 a9 a10 a11 a12 a13 a14 a15 a16 a17 a18 a19 a20 a21 a22 : S} : dNIx 23 fe (a0 :: a1 :: a2 :: a3 :: a4 :: a5 :: a6 :: a7 :: a8 :: a9 :: a10 :: a11 :: a12 :: a13 :: a14 :: a15 :: a16 :: a17 :: a18 :: a19 :: a20 :: a21 :: a22 :: S.v d :: r) Q X = fe (a0 :: a1 :: a2 :: a3 :: a4 :: a5 :: a6 :: a7 :: a8 :: a9 :: a10 :: a11 :: a12 :: a13 :: a14 :: a15 :: a16 :: a17 :: a18 :: a19 :: a20 :: a21 :: a22 :: S.v d :: r) (fun j δ1 => rdK δ1 23 fun d => gIx d j fun z => Q z δ1) X := by rw [q_nix]; simp [rdAt]
theorem k_nv24 {a0 a1 a2 a3 a4 a5 a6 a7 a8 a9 a10 a11 a12 a13 a14 a15 a16 a17 a18 a19 a20 a21 a22 a23 : S} : dNIx 24 fe (a0 :: a1 :: a2 :: a3 :: a4 :: a5 :: a6 :: a7 :: a8 :: a9 :: a10 :: a11 :: a12 :: a13 :: a14 :: a15 :: a16 :: a17 :: a18 :: a19 :: a20 :: a21 :: a22 :: a23 :: S.v d :: r) Q X = fe (a0 :: a1 :: a2 :: a3 :: a4 :: a5 :: a6 :: a7 :: a8 :: a9 :: a10 :: a11 :: a12 :: a13 :: a14 :: a15 :: a16 :: a17 :: a18 :: a19 :: a20 :: a21 :: a22 :: a23 :: S.v d :: r) (fun j δ1 => rdK δ1 24 fun d => gIx d j fun z => Q z δ1) X := by rw [q_nix]; simp [rdAt]
theorem k_nv25 {a0 a1 a2 a3 a4 a5 a6 a7 a8 a9 a10 a11 a12 a13 a14 a15 a16 a17 a18 a19 a20 a21 a22 a23 a24 : S} : dNIx 25 fe (a0 :: a1 :: a2 :: a3 :: a4 :: a5 :: a6 :: a7 :: a8 :: a9 :: a10 :: a11 :: a12 :: a13 :: a14 :: a15 :: a16 :: a17 :: a18 :: a19 :: a20 :: a21 :: a22 :: a23 :: a24 :: S.v d :: r) Q X = fe (a0 :: a1 :: a2 :: a3 :: a4 :: a5 :: a6 :: a7 :: a8 :: a9 :: a10 :: a11 :: a12 :: a13 :: a14 :: a15 :: a16 :: a17 :: a18 :: a19 :: a20 :: a21 :: a22 :: a23 :: a24 :: S.v d :: r) (fun j δ1 => rdK δ1 25 fun d => gIx d j fun z => Q z δ1) X := by rw [q_nix]; simp [rdAt]
theorem k_no0 : dNIx 0 fe (S.own d :: r) Q X = fe (S.own d :: r) (fun j δ1 => rdK δ1 0 fun d => gIx d j fun z => Q z δ1) X := by rw [q_nix]; simp [rdAt]
theorem k_no1 {a0 : S} : dNIx 1 fe (a0 :: S.own d :: r) Q X = fe (a0 :: S.own d :: r) (fun j δ1 => rdK δ1 1 fun d => gIx d j fun z => Q z δ1) X := by rw [q_nix]; simp [rdAt]
theorem k_no2 {a0 a1 : S} : dNIx 2 fe (a0 :: a1 :: S.own d :: r) Q X = fe (a0 :: a1 :: S.own d :: r) (fun j δ1 => rdK δ1 2 fun d => gIx d j fun z => Q z δ1) X := by rw [q_nix]; simp [rdAt]
theorem k_no3 {a0 a1 a2 : S} : dNIx 3 fe (a0 :: a1 :: a2 :: S.own d :: r) Q X = fe (a0 :: a1 :: a2 :: S.own d :: r) (fun j δ1 => rdK δ1 3 fun d => gIx d j fun z => Q z δ1) X := by rw [q_nix]; simp [rdAt]
theorem k_no4 {a0 a1 a2 a3 : S} : dNIx 4 fe (a0 :: a1 :: a2 :: a3 :: S.own d :: r) Q X = fe (a0 :: a1 :: a2 :: a3 :: S.own d :: r) (fun j δ1 => rdK δ1 4 fun d => gIx d j fun z => Q z δ1) X := by rw [q_nix]; simp [rdAt]
theorem k_no5 {a0 a1 a2 a3 a4 : S} : dNIx 5 fe (a0 :: a1 :: a2 :: a3 :: a4 :: S.own d :: r) Q X = fe (a0 :: a1 :: a2 :: a3 :: a4 :: S.own d :: r) (fun j δ1 => rdK δ1 5 fun d => gIx d j fun z => Q z δ1) X := by rw [q_nix]; simp [rdAt]
theorem k_no6 {a0 a1 a2 a3 a4 a5 : S} : dNIx 6 fe (a0 :: a1 :: a2 :: a3 :: a4 :: a5 :: S.own d :: r) Q X = fe (a0 :: a1 :: a2 :: a3 :: a4 :: a5 :: S.own d :: r) (fun j δ1 => rdK δ1 6 fun d => gIx d j fun z => Q z δ1) X := by rw [q_nix]; simp [rdAt]
theorem k_no7 {a0 a1 a2 a3 a4 a5 a6 : S} : dNIx 7 fe (a0 :: a1 :: a2 :: a3 :: a4 :: a5 :: a6 :: S.own d :: r) Q X = fe (a0 :: a1 :: a2 :: a3 :: a4 :: a5 :: a6 :: S.own d :: r) (fun j δ1 => rdK δ1 7 fun d => gIx d j fun z => Q z δ1) X := by rw [q_nix]; simp [rdAt]
theorem k_no8 {a0 a1 a2 a3 a4 a5 a6 a7 : S} : dNIx 8 fe (a0 :: a1 :: a2 :: a3 :: a4 :: a5 :: a6 :: a7 :: S.own d :: r) Q X = fe (a0 :: a1 :: a2 :: a3 :: a4 :: a5 :: a6 :: a7 :: S.own d :: r) (fun j δ1 => rdK δ1 8 fun d => gIx d j fun z => Q z δ1) X := by rw [q_nix]; simp [rdAt]
theorem k_no9 {a0 a1 a2 a3 a4 a5 a6 a7 a8 : S} : dNIx 9 fe (a0 :: a1 :: a2 :: a3 :: a4 :: a5 :: a6 :: a7 :: a8 :: S.own d :: r) Q X = fe (a0 :: a1 :: a2 :: a3 :: a4 :: a5 :: a6 :: a7 :: a8 :: S.own d :: r) (fun j δ1 => rdK δ1 9 fun d => gIx d j fun z => Q z δ1) X := by rw [q_nix]; simp [rdAt]
theorem k_no10 {a0 a1 a2 a3 a4 a5 a6 a7 a8 a9 : S} : dNIx 10 fe (a0 :: a1 :: a2 :: a3 :: a4 :: a5 :: a6 :: a7 :: a8 :: a9 :: S.own d :: r) Q X = fe (a0 :: a1 :: a2 :: a3 :: a4 :: a5 :: a6 :: a7 :: a8 :: a9 :: S.own d :: r) (fun j δ1 => rdK δ1 10 fun d => gIx d j fun z => Q z δ1) X := by rw [q_nix]; simp [rdAt]
theorem k_no11 {a0 a1 a2 a3 a4 a5 a6 a7 a8 a9 a10 : S} : dNIx 11 fe (a0 :: a1 :: a2 :: a3 :: a4 :: a5 :: a6 :: a7 :: a8 :: a9 :: a10 :: S.own d :: r) Q X = fe (a0 :: a1 :: a2 :: a3 :: a4 :: a5 :: a6 :: a7 :: a8 :: a9 :: a10 :: S.own d :: r) (fun j δ1 => rdK δ1 11 fun d => gIx d j fun z => Q z δ1) X := by rw [q_nix]; simp [rdAt]
theorem k_no12 {a0 a1 a2 a3 a4 a5 a6 a7 a8 a9 a10 a11 : S} : dNIx 12 fe (a0 :: a1 :: a2 :: a3 :: a4 :: a5 :: a6 :: a7 :: a8 :: a9 :: a10 :: a11 :: S.own d :: r) Q X = fe (a0 :: a1 :: a2 :: a3 :: a4 :: a5 :: a6 :: a7 :: a8 :: a9 :: a10 :: a11 :: S.own d :: r) (fun j δ1 => rdK δ1 12 fun d => gIx d j fun z => Q z δ1) X := by rw [q_nix]; simp [rdAt]
theorem k_no13 {a0 a1 a2 a3 a4 a5 a6 a7 a8 a9 a10 a11 a12 : S} : dNIx 13 fe (a0 :: a1 :: a2 :: a3 :: a4 :: a5 :: a6 :: a7 :: a8 :: a9 :: a10 :: a11 :: a12 :: S.own d :: r) Q X = fe (a0 :: a1 :: a2 :: a3 :: a4 :: a5 :: a6 :: a7 :: a8 :: a9 :: a10 :: a11 :: a12 :: S.own d :: r) (fun j δ1 => rdK δ1 13 fun d => gIx d j fun z => Q z δ1) X := by rw [q_nix]; simp [rdAt]
theorem k_no14 {a0 a1 a2 a3 a4 a5 a6 a7 a8 a9 a10 a11 a12 a13 : S} : dNIx 14 fe (a0 :: a1 :: a2 :: a3 :: a4 :: a5 :: a6 :: a7 :: a8 :: a9 :: a10 :: a11 :: a12 :: a13 :: S.own d :: r) Q X = fe (a0 :: a1 :: a2 :: a3 :: a4 :: a5 :: a6 :: a7 :: a8 :: a9 :: a10 :: a11 :: a12 :: a13 :: S.own d :: r) (fun j δ1 => rdK δ1 14 fun d => gIx d j fun z => Q z δ1) X := by rw [q_nix]; simp [rdAt]
theorem k_no15 {a0 a1 a2 a3 a4 a5 a6 a7 a8 a9 a10 a11 a12 a13 a14 : S} : dNIx 15 fe (a0 :: a1 :: a2 :: a3 :: a4 :: a5 :: a6 :: a7 :: a8 :: a9 :: a10 :: a11 :: a12 :: a13 :: a14 :: S.own d :: r) Q X = fe (a0 :: a1 :: a2 :: a3 :: a4 :: a5 :: a6 :: a7 :: a8 :: a9 :: a10 :: a11 :: a12 :: a13 :: a14 :: S.own d :: r) (fun j δ1 => rdK δ1 15 fun d => gIx d j fun z => Q z δ1) X := by rw [q_nix]; simp [rdAt]
theorem k_no16 {a0 a1 a2 a3 a4 a5 a6 a7 a8 a9 a10 a11 a12 a13 a14 a15 : S} : dNIx 16 fe (a0 :: a1 :: a2 :: a3 :: a4 :: a5 :: a6 :: a7 :: a8 :: a9 :: a10 :: a11 :: a12 :: a13 :: a14 :: a15 :: S.own d :: r) Q X = fe (a0 :: a1 :: a2 :: a3 :: a4 :: a5 :: a6 :: a7 :: a8 :: a9 :: a10 :: a11 :: a12 :: a13 :: a14 :: a15 :: S.own d :: r) (fun j δ1 => rdK δ1 16 fun d => gIx d j fun z => Q z δ1) X := by rw [q_nix]; simp [rdAt]
theorem k_no17 {a0 a1 a2 a3 a4 a5 a6 a7 a8 a9 a10 a11 a12 a13 a14 a15 a16 : S} : dNIx 17 fe (a0 :: a1 :: a2 :: a3 :: a4 :: a5 :: a6 :: a7 :: a8 :: a9 :: a10 :: a11 :: a12 :: a13 :: a14 :: a15 :: a16 :: S.own d :: r) Q X = fe (a0 :: a1 :: a2 :: a3 :: a4 :: a5 :: a6 :: a7 :: a8 :: a9 :: a10 :: a11 :: a12 :: a13 :: a14 :: a15 :: a16 :: S.own d :: r) (fun j δ1 => rdK δ1 17 fun d => gIx d j fun z => Q z δ1) X := by rw [q_nix]; simp [rdAt]
theorem k_no18 {a0 a1 a2 a3 a4 a5 a6 a7 a8 a9 a10 a11 a12 a13 a14 a15 a16 a17 : S} : dNIx 18 fe (a0 :: a1 :: a2 :: a3 :: a4 :: a5 :: a6 :: a7 :: a8 :: a9 :: a10 :: a11 :: a12 :: a13 :: a14 :: a15 :: a16 :: a17 :: S.own d :: r) Q X = fe (a0 :: a1 :: a2 :: a3 :: a4 :: a5 :: a6 :: a7 :: a8 :: a9 :: a10 :: a11 :: a12 :: a13 :: a14 :: a15 :: a16 :: a17 :: S.own d :: r) (fun j δ1 => rdK δ1 18 fun d => gIx d j fun z => Q z δ1) X := by rw [q_nix]; simp [rdAt]
theorem k_no19 {a0 a1 a2 a3 a4 a5 a6 a7 a8 a9 a10 a11 a12 a13 a14 a15 a16 a17 a18 : S} : dNIx 19 fe (a0 :: a1 :: a2 :: a3 :: a4 :: a5 :: a6 :: a7 :: a8 :: a9 :: a10 :: a11 :: a12 :: a13 :: a14 :: a15 :: a16 :: a17 :: a18 :: S.own d :: r) Q X = fe (a0 :: a1 :: a2 :: a3 :: a4 :: a5 :: a6 :: a7 :: a8 :: a9 :: a10 :: a11 :: a12 :: a13 :: a14 :: a15 :: a16 :: a17 :: a18 :: S.own d :: r) (fun j δ1 => rdK δ1 19 fun d => gIx d j fun z => Q z δ1) X := by rw [q_nix]; simp [rdAt]
theorem k_no20 {a0 a1 a2 a3 a4 a5 a6 a7 a8 a9 a10 a11 a12 a13 a14 a15 a16 a17 a18 a19 : S} : dNIx 20 fe (a0 :: a1 :: a2 :: a3 :: a4 :: a5 :: a6 :: a7 :: a8 :: a9 :: a10 :: a11 :: a12 :: a13 :: a14 :: a15 :: a16 :: a17 :: a18 :: a19 :: S.own d :: r) Q X = fe (a0 :: a1 :: a2 :: a3 :: a4 :: a5 :: a6 :: a7 :: a8 :: a9 :: a10 :: a11 :: a12 :: a13 :: a14 :: a15 :: a16 :: a17 :: a18 :: a19 :: S.own d :: r) (fun j δ1 => rdK δ1 20 fun d => gIx d j fun z => Q z δ1) X := by rw [q_nix]; simp [rdAt]
theorem k_no21 {a0 a1 a2 a3 a4 a5 a6 a7 a8 a9 a10 a11 a12 a13 a14 a15 a16 a17 a18 a19 a20 : S} : dNIx 21 fe (a0 :: a1 :: a2 :: a3 :: a4 :: a5 :: a6 :: a7 :: a8 :: a9 :: a10 :: a11 :: a12 :: a13 :: a14 :: a15 :: a16 :: a17 :: a18 :: a19 :: a20 :: S.own d :: r) Q X = fe (a0 :: a1 :: a2 :: a3 :: a4 :: a5 :: a6 :: a7 :: a8 :: a9 :: a10 :: a11 :: a12 :: a13 :: a14 :: a15 :: a16 :: a17 :: a18 :: a19 :: a20 :: S.own d :: r) (fun j δ1 => rdK δ1 21 fun d => gIx d j fun z => Q z δ1) X := by rw [q_nix]; simp [rdAt]
theorem k_no22 {a0 a1 a2 a3 a4 a5 a6 a7 a8 a9 a10 a11 a12 a13 a14 a15 a16 a17 a18 a19 a20 a21 : S} : dNIx 22 fe (a0 :: a1 :: a2 :: a3 :: a4 :: a5 :: a6 :: a7 :: a8 :: a9 :: a10 :: a11 :: a12 :: a13 :: a14 :: a15 :: a16 :: a17 :: a18 :: a19 :: a20 :: a21 :: S.own d :: r) Q X = fe (a0 :: a1 :: a2 :: a3 :: a4 :: a5 :: a6 :: a7 :: a8 :: a9 :: a10 :: a11 :: a12 :: a13 :: a14 :: a15 :: a16 :: a17 :: a18 :: a19 :: a20 :: a21 :: S.own d :: r) (fun j δ1 => rdK δ1 22 fun d => gIx d j fun z => Q z δ1) X := by rw [q_nix]; simp [rdAt]
theorem k_no23 {a0 a1 a2 a3 a4 a5 a6 a7 a8 a9 a10 a11 a12 a13 a14 a15 a16 a17 a18 a19 a20 a21 a22 : S} : dNIx 23 fe (a0 :: a1 :: a2 :: a3 :: a4 :: a5 :: a6 :: a7 :: a8 :: a9 :: a10 :: a11 :: a12 :: a13 :: a14 :: a15 :: a16 :: a17 :: a18 :: a19 :: a20 :: a21 :: a22 :: S.own d :: r) Q X = fe (a0 :: a1 :: a2 :: a3 :: a4 :: a5 :: a6 :: a7 :: a8 :: a9 :: a10 :: a11 :: a12 :: a13 :: a14 :: a15 :: a16 :: a17 :: a18 :: a19 :: a20 :: a21 :: a22 :: S.own d :: r) (fun j δ1 => rdK δ1 23 fun d => gIx d j fun z => Q z δ1) X := by rw [q_nix]; simp [rdAt]
theorem k_no24 {a0 a1 a2 a3 a4 a5 a6 a7 a8 a9 a10 a11 a12 a13 a14 a15 a16 a17 a18 a19 a20 a21 a22 a23 : S} : dNIx 24 fe (a0 :: a1 :: a2 :: a3 :: a4 :: a5 :: a6 :: a7 :: a8 :: a9 :: a10 :: a11 :: a12 :: a13 :: a14 :: a15 :: a16 :: a17 :: a18 :: a19 :: a20 :: a21 :: a22 :: a23 :: S.own d :: r) Q X = fe (a0 :: a1 :: a2 :: a3 :: a4 :: a5 :: a6 :: a7 :: a8 :: a9 :: a10 :: a11 :: a12 :: a13 :: a14 :: a15 :: a16 :: a17 :: a18 :: a19 :: a20 :: a21 :: a22 :: a23 :: S.own d :: r) (fun j δ1 => rdK δ1 24 fun d => gIx d j fun z => Q z δ1) X := by rw [q_nix]; simp [rdAt]
theorem k_no25 {a0 a1 a2 a3 a4 a5 a6 a7 a8 a9 a10 a11 a12 a13 a14 a15 a16 a17 a18 a19 a20 a21 a22 a23 a24 : S} : dNIx 25 fe (a0 :: a1 :: a2 :: a3 :: a4 :: a5 :: a6 :: a7 :: a8 :: a9 :: a10 :: a11 :: a12 :: a13 :: a14 :: a15 :: a16 :: a17 :: a18 :: a19 :: a20 :: a21 :: a22 :: a23 :: a24 :: S.own d :: r) Q X = fe (a0 :: a1 :: a2 :: a3 :: a4 :: a5 :: a6 :: a7 :: a8 :: a9 :: a10 :: a11 :: a12 :: a13 :: a14 :: a15 :: a16 :: a17 :: a18 :: a19 :: a20 :: a21 :: a22 :: a23 :: a24 :: S.own d :: r) (fun j δ1 => rdK δ1 25 fun d => gIx d j fun z => Q z δ1) X := by rw [q_nix]; simp [rdAt]
theorem k_nl0 : dNIx 0 fe (S.lent d :: r) Q X = fe (S.lent d :: r) (fun j δ1 => rdK δ1 0 fun d => gIx d j fun z => Q z δ1) X := by rw [q_nix]; simp [rdAt]
theorem k_nl1 {a0 : S} : dNIx 1 fe (a0 :: S.lent d :: r) Q X = fe (a0 :: S.lent d :: r) (fun j δ1 => rdK δ1 1 fun d => gIx d j fun z => Q z δ1) X := by rw [q_nix]; simp [rdAt]
theorem k_nl2 {a0 a1 : S} : dNIx 2 fe (a0 :: a1 :: S.lent d :: r) Q X = fe (a0 :: a1 :: S.lent d :: r) (fun j δ1 => rdK δ1 2 fun d => gIx d j fun z => Q z δ1) X := by rw [q_nix]; simp [rdAt]
theorem k_nl3 {a0 a1 a2 : S} : dNIx 3 fe (a0 :: a1 :: a2 :: S.lent d :: r) Q X = fe (a0 :: a1 :: a2 :: S.lent d :: r) (fun j δ1 => rdK δ1 3 fun d => gIx d j fun z => Q z δ1) X := by rw [q_nix]; simp [rdAt]
theorem k_nl4 {a0 a1 a2 a3 : S} : dNIx 4 fe (a0 :: a1 :: a2 :: a3 :: S.lent d :: r) Q X = fe (a0 :: a1 :: a2 :: a3 :: S.lent d :: r) (fun j δ1 => rdK δ1 4 fun d => gIx d j fun z => Q z δ1) X := by rw [q_nix]; simp [rdAt]
theorem k_nl5 {a0 a1 a2 a3 a4 : S} : dNIx 5 fe (a0 :: a1 :: a2 :: a3 :: a4 :: S.lent d :: r) Q X = fe (a0 :: a1 :: a2 :: a3 :: a4 :: S.lent d :: r) (fun j δ1 => rdK δ1 5 fun d => gIx d j fun z => Q z δ1) X := by rw [q_nix]; simp [rdAt]
theorem k_nl6 {a0 a1 a2 a3 a4 a5 : S} : dNIx 6 fe (a0 :: a1 :: a2 :: a3 :: a4 :: a5 :: S.lent d :: r) Q X = fe (a0 :: a1 :: a2 :: a3 :: a4 :: a5 :: S.lent d :: r) (fun j δ1 => rdK δ1 6 fun d => gIx d j fun z => Q z δ1) X := by rw [q_nix]; simp [rdAt]
theorem k_nl7 {a0 a1 a2 a3 a4 a5 a6 : S} : dNIx 7 fe (a0 :: a1 :: a2 :: a3 :: a4 :: a5 :: a6 :: S.lent d :: r) Q X = fe (a0 :: a1 :: a2 :: a3 :: a4 :: a5 :: a6 :: S.lent d :: r) (fun j δ1 => rdK δ1 7 fun d => gIx d j fun z => Q z δ1) X := by rw [q_nix]; simp [rdAt]
theorem k_nl8 {a0 a1 a2 a3 a4 a5 a6 a7 : S} : dNIx 8 fe (a0 :: a1 :: a2 :: a3 :: a4 :: a5 :: a6 :: a7 :: S.lent d :: r) Q X = fe (a0 :: a1 :: a2 :: a3 :: a4 :: a5 :: a6 :: a7 :: S.lent d :: r) (fun j δ1 => rdK δ1 8 fun d => gIx d j fun z => Q z δ1) X := by rw [q_nix]; simp [rdAt]
theorem k_nl9 {a0 a1 a2 a3 a4 a5 a6 a7 a8 : S} : dNIx 9 fe (a0 :: a1 :: a2 :: a3 :: a4 :: a5 :: a6 :: a7 :: a8 :: S.lent d :: r) Q X = fe (a0 :: a1 :: a2 :: a3 :: a4 :: a5 :: a6 :: a7 :: a8 :: S.lent d :: r) (fun j δ1 => rdK δ1 9 fun d => gIx d j fun z => Q z δ1) X := by rw [q_nix]; simp [rdAt]
theorem k_nl10 {a0 a1 a2 a3 a4 a5 a6 a7 a8 a9 : S} : dNIx 10 fe (a0 :: a1 :: a2 :: a3 :: a4 :: a5 :: a6 :: a7 :: a8 :: a9 :: S.lent d :: r) Q X = fe (a0 :: a1 :: a2 :: a3 :: a4 :: a5 :: a6 :: a7 :: a8 :: a9 :: S.lent d :: r) (fun j δ1 => rdK δ1 10 fun d => gIx d j fun z => Q z δ1) X := by rw [q_nix]; simp [rdAt]
theorem k_nl11 {a0 a1 a2 a3 a4 a5 a6 a7 a8 a9 a10 : S} : dNIx 11 fe (a0 :: a1 :: a2 :: a3 :: a4 :: a5 :: a6 :: a7 :: a8 :: a9 :: a10 :: S.lent d :: r) Q X = fe (a0 :: a1 :: a2 :: a3 :: a4 :: a5 :: a6 :: a7 :: a8 :: a9 :: a10 :: S.lent d :: r) (fun j δ1 => rdK δ1 11 fun d => gIx d j fun z => Q z δ1) X := by rw [q_nix]; simp [rdAt]
theorem k_nl12 {a0 a1 a2 a3 a4 a5 a6 a7 a8 a9 a10 a11 : S} : dNIx 12 fe (a0 :: a1 :: a2 :: a3 :: a4 :: a5 :: a6 :: a7 :: a8 :: a9 :: a10 :: a11 :: S.lent d :: r) Q X = fe (a0 :: a1 :: a2 :: a3 :: a4 :: a5 :: a6 :: a7 :: a8 :: a9 :: a10 :: a11 :: S.lent d :: r) (fun j δ1 => rdK δ1 12 fun d => gIx d j fun z => Q z δ1) X := by rw [q_nix]; simp [rdAt]
theorem k_nl13 {a0 a1 a2 a3 a4 a5 a6 a7 a8 a9 a10 a11 a12 : S} : dNIx 13 fe (a0 :: a1 :: a2 :: a3 :: a4 :: a5 :: a6 :: a7 :: a8 :: a9 :: a10 :: a11 :: a12 :: S.lent d :: r) Q X = fe (a0 :: a1 :: a2 :: a3 :: a4 :: a5 :: a6 :: a7 :: a8 :: a9 :: a10 :: a11 :: a12 :: S.lent d :: r) (fun j δ1 => rdK δ1 13 fun d => gIx d j fun z => Q z δ1) X := by rw [q_nix]; simp [rdAt]
theorem k_nl14 {a0 a1 a2 a3 a4 a5 a6 a7 a8 a9 a10 a11 a12 a13 : S} : dNIx 14 fe (a0 :: a1 :: a2 :: a3 :: a4 :: a5 :: a6 :: a7 :: a8 :: a9 :: a10 :: a11 :: a12 :: a13 :: S.lent d :: r) Q X = fe (a0 :: a1 :: a2 :: a3 :: a4 :: a5 :: a6 :: a7 :: a8 :: a9 :: a10 :: a11 :: a12 :: a13 :: S.lent d :: r) (fun j δ1 => rdK δ1 14 fun d => gIx d j fun z => Q z δ1) X := by rw [q_nix]; simp [rdAt]
theorem k_nl15 {a0 a1 a2 a3 a4 a5 a6 a7 a8 a9 a10 a11 a12 a13 a14 : S} : dNIx 15 fe (a0 :: a1 :: a2 :: a3 :: a4 :: a5 :: a6 :: a7 :: a8 :: a9 :: a10 :: a11 :: a12 :: a13 :: a14 :: S.lent d :: r) Q X = fe (a0 :: a1 :: a2 :: a3 :: a4 :: a5 :: a6 :: a7 :: a8 :: a9 :: a10 :: a11 :: a12 :: a13 :: a14 :: S.lent d :: r) (fun j δ1 => rdK δ1 15 fun d => gIx d j fun z => Q z δ1) X := by rw [q_nix]; simp [rdAt]
theorem k_nl16 {a0 a1 a2 a3 a4 a5 a6 a7 a8 a9 a10 a11 a12 a13 a14 a15 : S} : dNIx 16 fe (a0 :: a1 :: a2 :: a3 :: a4 :: a5 :: a6 :: a7 :: a8 :: a9 :: a10 :: a11 :: a12 :: a13 :: a14 :: a15 :: S.lent d :: r) Q X = fe (a0 :: a1 :: a2 :: a3 :: a4 :: a5 :: a6 :: a7 :: a8 :: a9 :: a10 :: a11 :: a12 :: a13 :: a14 :: a15 :: S.lent d :: r) (fun j δ1 => rdK δ1 16 fun d => gIx d j fun z => Q z δ1) X := by rw [q_nix]; simp [rdAt]
theorem k_nl17 {a0 a1 a2 a3 a4 a5 a6 a7 a8 a9 a10 a11 a12 a13 a14 a15 a16 : S} : dNIx 17 fe (a0 :: a1 :: a2 :: a3 :: a4 :: a5 :: a6 :: a7 :: a8 :: a9 :: a10 :: a11 :: a12 :: a13 :: a14 :: a15 :: a16 :: S.lent d :: r) Q X = fe (a0 :: a1 :: a2 :: a3 :: a4 :: a5 :: a6 :: a7 :: a8 :: a9 :: a10 :: a11 :: a12 :: a13 :: a14 :: a15 :: a16 :: S.lent d :: r) (fun j δ1 => rdK δ1 17 fun d => gIx d j fun z => Q z δ1) X := by rw [q_nix]; simp [rdAt]
theorem k_nl18 {a0 a1 a2 a3 a4 a5 a6 a7 a8 a9 a10 a11 a12 a13 a14 a15 a16 a17 : S} : dNIx 18 fe (a0 :: a1 :: a2 :: a3 :: a4 :: a5 :: a6 :: a7 :: a8 :: a9 :: a10 :: a11 :: a12 :: a13 :: a14 :: a15 :: a16 :: a17 :: S.lent d :: r) Q X = fe (a0 :: a1 :: a2 :: a3 :: a4 :: a5 :: a6 :: a7 :: a8 :: a9 :: a10 :: a11 :: a12 :: a13 :: a14 :: a15 :: a16 :: a17 :: S.lent d :: r) (fun j δ1 => rdK δ1 18 fun d => gIx d j fun z => Q z δ1) X := by rw [q_nix]; simp [rdAt]
theorem k_nl19 {a0 a1 a2 a3 a4 a5 a6 a7 a8 a9 a10 a11 a12 a13 a14 a15 a16 a17 a18 : S} : dNIx 19 fe (a0 :: a1 :: a2 :: a3 :: a4 :: a5 :: a6 :: a7 :: a8 :: a9 :: a10 :: a11 :: a12 :: a13 :: a14 :: a15 :: a16 :: a17 :: a18 :: S.lent d :: r) Q X = fe (a0 :: a1 :: a2 :: a3 :: a4 :: a5 :: a6 :: a7 :: a8 :: a9 :: a10 :: a11 :: a12 :: a13 :: a14 :: a15 :: a16 :: a17 :: a18 :: S.lent d :: r) (fun j δ1 => rdK δ1 19 fun d => gIx d j fun z => Q z δ1) X := by rw [q_nix]; simp [rdAt]
theorem k_nl20 {a0 a1 a2 a3 a4 a5 a6 a7 a8 a9 a10 a11 a12 a13 a14 a15 a16 a17 a18 a19 : S} : dNIx 20 fe (a0 :: a1 :: a2 :: a3 :: a4 :: a5 :: a6 :: a7 :: a8 :: a9 :: a10 :: a11 :: a12 :: a13 :: a14 :: a15 :: a16 :: a17 :: a18 :: a19 :: S.lent d :: r) Q X = fe (a0 :: a1 :: a2 :: a3 :: a4 :: a5 :: a6 :: a7 :: a8 :: a9 :: a10 :: a11 :: a12 :: a13 :: a14 :: a15 :: a16 :: a17 :: a18 :: a19 :: S.lent d :: r) (fun j δ1 => rdK δ1 20 fun d => gIx d j fun z => Q z δ1) X := by rw [q_nix]; simp [rdAt]
theorem k_nl21 {a0 a1 a2 a3 a4 a5 a6 a7 a8 a9 a10 a11 a12 a13 a14 a15 a16 a17 a18 a19 a20 : S} : dNIx 21 fe (a0 :: a1 :: a2 :: a3 :: a4 :: a5 :: a6 :: a7 :: a8 :: a9 :: a10 :: a11 :: a12 :: a13 :: a14 :: a15 :: a16 :: a17 :: a18 :: a19 :: a20 :: S.lent d :: r) Q X = fe (a0 :: a1 :: a2 :: a3 :: a4 :: a5 :: a6 :: a7 :: a8 :: a9 :: a10 :: a11 :: a12 :: a13 :: a14 :: a15 :: a16 :: a17 :: a18 :: a19 :: a20 :: S.lent d :: r) (fun j δ1 => rdK δ1 21 fun d => gIx d j fun z => Q z δ1) X := by rw [q_nix]; simp [rdAt]
theorem k_nl22 {a0 a1 a2 a3 a4 a5 a6 a7 a8 a9 a10 a11 a12 a13 a14 a15 a16 a17 a18 a19 a20 a21 : S} : dNIx 22 fe (a0 :: a1 :: a2 :: a3 :: a4 :: a5 :: a6 :: a7 :: a8 :: a9 :: a10 :: a11 :: a12 :: a13 :: a14 :: a15 :: a16 :: a17 :: a18 :: a19 :: a20 :: a21 :: S.lent d :: r) Q X = fe (a0 :: a1 :: a2 :: a3 :: a4 :: a5 :: a6 :: a7 :: a8 :: a9 :: a10 :: a11 :: a12 :: a13 :: a14 :: a15 :: a16 :: a17 :: a18 :: a19 :: a20 :: a21 :: S.lent d :: r) (fun j δ1 => rdK δ1 22 fun d => gIx d j fun z => Q z δ1) X := by rw [q_nix]; simp [rdAt]
theorem k_nl23 {a0 a1 a2 a3 a4 a5 a6 a7 a8 a9 a10 a11 a12 a13 a14 a15 a16 a17 a18 a19 a20 a21 a22 : S} : dNIx 23 fe (a0 :: a1 :: a2 :: a3 :: a4 :: a5 :: a6 :: a7 :: a8 :: a9 :: a10 :: a11 :: a12 :: a13 :: a14 :: a15 :: a16 :: a17 :: a18 :: a19 :: a20 :: a21 :: a22 :: S.lent d :: r) Q X = fe (a0 :: a1 :: a2 :: a3 :: a4 :: a5 :: a6 :: a7 :: a8 :: a9 :: a10 :: a11 :: a12 :: a13 :: a14 :: a15 :: a16 :: a17 :: a18 :: a19 :: a20 :: a21 :: a22 :: S.lent d :: r) (fun j δ1 => rdK δ1 23 fun d => gIx d j fun z => Q z δ1) X := by rw [q_nix]; simp [rdAt]
theorem k_nl24 {a0 a1 a2 a3 a4 a5 a6 a7 a8 a9 a10 a11 a12 a13 a14 a15 a16 a17 a18 a19 a20 a21 a22 a23 : S} : dNIx 24 fe (a0 :: a1 :: a2 :: a3 :: a4 :: a5 :: a6 :: a7 :: a8 :: a9 :: a10 :: a11 :: a12 :: a13 :: a14 :: a15 :: a16 :: a17 :: a18 :: a19 :: a20 :: a21 :: a22 :: a23 :: S.lent d :: r) Q X = fe (a0 :: a1 :: a2 :: a3 :: a4 :: a5 :: a6 :: a7 :: a8 :: a9 :: a10 :: a11 :: a12 :: a13 :: a14 :: a15 :: a16 :: a17 :: a18 :: a19 :: a20 :: a21 :: a22 :: a23 :: S.lent d :: r) (fun j δ1 => rdK δ1 24 fun d => gIx d j fun z => Q z δ1) X := by rw [q_nix]; simp [rdAt]
theorem k_nl25 {a0 a1 a2 a3 a4 a5 a6 a7 a8 a9 a10 a11 a12 a13 a14 a15 a16 a17 a18 a19 a20 a21 a22 a23 a24 : S} : dNIx 25 fe (a0 :: a1 :: a2 :: a3 :: a4 :: a5 :: a6 :: a7 :: a8 :: a9 :: a10 :: a11 :: a12 :: a13 :: a14 :: a15 :: a16 :: a17 :: a18 :: a19 :: a20 :: a21 :: a22 :: a23 :: a24 :: S.lent d :: r) Q X = fe (a0 :: a1 :: a2 :: a3 :: a4 :: a5 :: a6 :: a7 :: a8 :: a9 :: a10 :: a11 :: a12 :: a13 :: a14 :: a15 :: a16 :: a17 :: a18 :: a19 :: a20 :: a21 :: a22 :: a23 :: a24 :: S.lent d :: r) (fun j δ1 => rdK δ1 25 fun d => gIx d j fun z => Q z δ1) X := by rw [q_nix]; simp [rdAt]
theorem k_ao0 : dApp 0 f E (S.own (.lst ds) :: r) = f (S.own (.lst ds) :: r) (fun d δ1 => ownLK δ1 0 fun ds => ds.length < sizeLine ∧ putK δ1 0 (.lst (ds ++ [d])) E.nx) E.xx := by rw [q_app]; simp [ownAt]
theorem k_ao1 {a0 : S} : dApp 1 f E (a0 :: S.own (.lst ds) :: r) = f (a0 :: S.own (.lst ds) :: r) (fun d δ1 => ownLK δ1 1 fun ds => ds.length < sizeLine ∧ putK δ1 1 (.lst (ds ++ [d])) E.nx) E.xx := by rw [q_app]; simp [ownAt]
theorem k_ao2 {a0 a1 : S} : dApp 2 f E (a0 :: a1 :: S.own (.lst ds) :: r) = f (a0 :: a1 :: S.own (.lst ds) :: r) (fun d δ1 => ownLK δ1 2 fun ds => ds.length < sizeLine ∧ putK δ1 2 (.lst (ds ++ [d])) E.nx) E.xx := by rw [q_app]; simp [ownAt]
theorem k_ao3 {a0 a1 a2 : S} : dApp 3 f E (a0 :: a1 :: a2 :: S.own (.lst ds) :: r) = f (a0 :: a1 :: a2 :: S.own (.lst ds) :: r) (fun d δ1 => ownLK δ1 3 fun ds => ds.length < sizeLine ∧ putK δ1 3 (.lst (ds ++ [d])) E.nx) E.xx := by rw [q_app]; simp [ownAt]
theorem k_ao4 {a0 a1 a2 a3 : S} : dApp 4 f E (a0 :: a1 :: a2 :: a3 :: S.own (.lst ds) :: r) = f (a0 :: a1 :: a2 :: a3 :: S.own (.lst ds) :: r) (fun d δ1 => ownLK δ1 4 fun ds => ds.length < sizeLine ∧ putK δ1 4 (.lst (ds ++ [d])) E.nx) E.xx := by rw [q_app]; simp [ownAt]
theorem k_ao5 {a0 a1 a2 a3 a4 : S} : dApp 5 f E (a0 :: a1 :: a2 :: a3 :: a4 :: S.own (.lst ds) :: r) = f (a0 :: a1 :: a2 :: a3 :: a4 :: S.own (.lst ds) :: r) (fun d δ1 => ownLK δ1 5 fun ds => ds.length < sizeLine ∧ putK δ1 5 (.lst (ds ++ [d])) E.nx) E.xx := by rw [q_app]; simp [ownAt]
theorem k_ao6 {a0 a1 a2 a3 a4 a5 : S} : dApp 6 f E (a0 :: a1 :: a2 :: a3 :: a4 :: a5 :: S.own (.lst ds) :: r) = f (a0 :: a1 :: a2 :: a3 :: a4 :: a5 :: S.own (.lst ds) :: r) (fun d δ1 => ownLK δ1 6 fun ds => ds.length < sizeLine ∧ putK δ1 6 (.lst (ds ++ [d])) E.nx) E.xx := by rw [q_app]; simp [ownAt]
theorem k_ao7 {a0 a1 a2 a3 a4 a5 a6 : S} : dApp 7 f E (a0 :: a1 :: a2 :: a3 :: a4 :: a5 :: a6 :: S.own (.lst ds) :: r) = f (a0 :: a1 :: a2 :: a3 :: a4 :: a5 :: a6 :: S.own (.lst ds) :: r) (fun d δ1 => ownLK δ1 7 fun ds => ds.length < sizeLine ∧ putK δ1 7 (.lst (ds ++ [d])) E.nx) E.xx := by rw [q_app]; simp [ownAt]
theorem k_ao8 {a0 a1 a2 a3 a4 a5 a6 a7 : S} : dApp 8 f E (a0 :: a1 :: a2 :: a3 :: a4 :: a5 :: a6 :: a7 :: S.own (.lst ds) :: r) = f (a0 :: a1 :: a2 :: a3 :: a4 :: a5 :: a6 :: a7 :: S.own (.lst ds) :: r) (fun d δ1 => ownLK δ1 8 fun ds => ds.length < sizeLine ∧ putK δ1 8 (.lst (ds ++ [d])) E.nx) E.xx := by rw [q_app]; simp [ownAt]
theorem k_ao9 {a0 a1 a2 a3 a4 a5 a6 a7 a8 : S} : dApp 9 f E (a0 :: a1 :: a2 :: a3 :: a4 :: a5 :: a6 :: a7 :: a8 :: S.own (.lst ds) :: r) = f (a0 :: a1 :: a2 :: a3 :: a4 :: a5 :: a6 :: a7 :: a8 :: S.own (.lst ds) :: r) (fun d δ1 => ownLK δ1 9 fun ds => ds.length < sizeLine ∧ putK δ1 9 (.lst (ds ++ [d])) E.nx) E.xx := by rw [q_app]; simp [ownAt]
theorem k_ao10 {a0 a1 a2 a3 a4 a5 a6 a7 a8 a9 : S} : dApp 10 f E (a0 :: a1 :: a2 :: a3 :: a4 :: a5 :: a6 :: a7 :: a8 :: a9 :: S.own (.lst ds) :: r) = f (a0 :: a1 :: a2 :: a3 :: a4 :: a5 :: a6 :: a7 :: a8 :: a9 :: S.own (.lst ds) :: r) (fun d δ1 => ownLK δ1 10 fun ds => ds.length < sizeLine ∧ putK δ1 10 (.lst (ds ++ [d])) E.nx) E.xx := by rw [q_app]; simp [ownAt]
theorem k_ao11 {a0 a1 a2 a3 a4 a5 a6 a7 a8 a9 a10 : S} : dApp 11 f E (a0 :: a1 :: a2 :: a3 :: a4 :: a5 :: a6 :: a7 :: a8 :: a9 :: a10 :: S.own (.lst ds) :: r) = f (a0 :: a1 :: a2 :: a3 :: a4 :: a5 :: a6 :: a7 :: a8 :: a9 :: a10 :: S.own (.lst ds) :: r) (fun d δ1 => ownLK δ1 11 fun ds => ds.length < sizeLine ∧ putK δ1 11 (.lst (ds ++ [d])) E.nx) E.xx := by rw [q_app]; simp [ownAt]
theorem k_ao12 {a0 a1 a2 a3 a4 a5 a6 a7 a8 a9 a10 a11 : S} : dApp 12 f E (a0 :: a1 :: a2 :: a3 :: a4 :: a5 :: a6 :: a7 :: a8 :: a9 :: a10 :: a11 :: S.own (.lst ds) :: r) = f (a0 :: a1 :: a2 :: a3 :: a4 :: a5 :: a6 :: a7 :: a8 :: a9 :: a10 :: a11 :: S.own (.lst ds) :: r) (fun d δ1 => ownLK δ1 12 fun ds => ds.length < sizeLine ∧ putK δ1 12 (.lst (ds ++ [d])) E.nx) E.xx := by rw [q_app]; simp [ownAt]
theorem k_ao13 {a0 a1 a2 a3 a4 a5 a6 a7 a8 a9 a10 a11 a12 : S} : dApp 13 f E (a0 :: a1 :: a2 :: a3 :: a4 :: a5 :: a6 :: a7 :: a8 :: a9 :: a10 :: a11 :: a12 :: S.own (.lst ds) :: r) = f (a0 :: a1 :: a2 :: a3 :: a4 :: a5 :: a6 :: a7 :: a8 :: a9 :: a10 :: a11 :: a12 :: S.own (.lst ds) :: r) (fun d δ1 => ownLK δ1 13 fun ds => ds.length < sizeLine ∧ putK δ1 13 (.lst (ds ++ [d])) E.nx) E.xx := by rw [q_app]; simp [ownAt]
theorem k_ao14 {a0 a1 a2 a3 a4 a5 a6 a7 a8 a9 a10 a11 a12 a13 : S} : dApp 14 f E (a0 :: a1 :: a2 :: a3 :: a4 :: a5 :: a6 :: a7 :: a8 :: a9 :: a10 :: a11 :: a12 :: a13 :: S.own (.lst ds) :: r) = f (a0 :: a1 :: a2 :: a3 :: a4 :: a5 :: a6 :: a7 :: a8 :: a9 :: a10 :: a11 :: a12 :: a13 :: S.own (.lst ds) :: r) (fun d δ1 => ownLK δ1 14 fun ds => ds.length < sizeLine ∧ putK δ1 14 (.lst (ds ++ [d])) E.nx) E.xx := by rw [q_app]; simp [ownAt]
theorem k_ao15 {a0 a1 a2 a3 a4 a5 a6 a7 a8 a9 a10 a11 a12 a13 a14 : S} : dApp 15 f E (a0 :: a1 :: a2 :: a3 :: a4 :: a5 :: a6 :: a7 :: a8 :: a9 :: a10 :: a11 :: a12 :: a13 :: a14 :: S.own (.lst ds) :: r) = f (a0 :: a1 :: a2 :: a3 :: a4 :: a5 :: a6 :: a7 :: a8 :: a9 :: a10 :: a11 :: a12 :: a13 :: a14 :: S.own (.lst ds) :: r) (fun d δ1 => ownLK δ1 15 fun ds => ds.length < sizeLine ∧ putK δ1 15 (.lst (ds ++ [d])) E.nx) E.xx := by rw [q_app]; simp [ownAt]
theorem k_ao16 {a0 a1 a2 a3 a4 a5 a6 a7 a8 a9 a10 a11 a12 a13 a14 a15 : S} : dApp 16 f E (a0 :: a1 :: a2 :: a3 :: a4 :: a5 :: a6 :: a7 :: a8 :: a9 :: a10 :: a11 :: a12 :: a13 :: a14 :: a15 :: S.own (.lst ds) :: r) = f (a0 :: a1 :: a2 :: a3 :: a4 :: a5 :: a6 :: a7 :: a8 :: a9 :: a10 :: a11 :: a12 :: a13 :: a14 :: a15 :: S.own (.lst ds) :: r) (fun d δ1 => ownLK δ1 16 fun ds => ds.length < sizeLine ∧ putK δ1 16 (.lst (ds ++ [d])) E.nx) E.xx := by rw [q_app]; simp [ownAt]
theorem k_ao17 {a0 a1 a2 a3 a4 a5 a6 a7 a8 a9 a10 a11 a12 a13 a14 a15 a16 : S} : dApp 17 f E (a0 :: a1 :: a2 :: a3 :: a4 :: a5 :: a6 :: a7 :: a8 :: a9 :: a10 :: a11 :: a12 :: a13 :: a14 :: a15 :: a16 :: S.own (.lst ds) :: r) = f (a0 :: a1 :: a2 :: a3 :: a4 :: a5 :: a6 :: a7 :: a8 :: a9 :: a10 :: a11 :: a12 :: a13 :: a14 :: a15 :: a16 :: S.own (.lst ds) :: r) (fun d δ1 => ownLK δ1 17 fun ds => ds.length < sizeLine ∧ putK δ1 17 (.lst (ds ++ [d])) E.nx) E.xx := by rw [q_app]; simp [ownAt]
theorem k_ao18 {a0 a1 a2 a3 a4 a5 a6 a7 a8 a9 a10 a11 a12 a13 a14 a15 a16 a17 : S} : dApp 18 f E (a0 :: a1 :: a2 :: a3 :: a4 :: a5 :: a6 :: a7 :: a8 :: a9 :: a10 :: a11 :: a12 :: a13 :: a14 :: a15 :: a16 :: a17 :: S.own (.lst ds) :: r) = f (a0 :: a1 :: a2 :: a3 :: a4 :: a5 :: a6 :: a7 :: a8 :: a9 :: a10 :: a11 :: a12 :: a13 :: a14 :: a15 :: a16 :: a17 :: S.own (.lst ds) :: r) (fun d δ1 => ownLK δ1 18 fun ds => ds.length < sizeLine ∧ putK δ1 18 (.lst (ds ++ [d])) E.nx) E.xx := by rw [q_app]; simp [ownAt]
theorem k_ao19 {a0 a1 a2 a3 a4 a5 a6 a7 a8 a9 a10 a11 a12 a13 a14 a15 a16 a17 a18 : S} : dApp 19 f E (a0 :: a1 :: a2 :: a3 :: a4 :: a5 :: a6 :: a7 :: a8 :: a9 :: a10 :: a11 :: a12 :: a13 :: a14 :: a15 :: a16 :: a17 :: a18 :: S.own (.lst ds) :: r) = f (a0 :: a1 :: a2 :: a3 :: a4 :: a5 :: a6 :: a7 :: a8 :: a9 :: a10 :: a11 :: a12 :: a13 :: a14 :: a15 :: a16 :: a17 :: a18 :: S.own (.lst ds) :: r) (fun d δ1 => ownLK δ1 19 fun ds => ds.length < sizeLine ∧ putK δ1 19 (.lst (ds ++ [d])) E.nx) E.xx := by rw [q_app]; simp [ownAt]
theorem k_ao20 {a0 a1 a2 a3 a4 a5 a6 a7 a8 a9 a10 a11 a12 a13 a14 a15 a16 a17 a18 a19 : S} : dApp 20 f E (a0 :: a1 :: a2 :: a3 :: a4 :: a5 :: a6 :: a7 :: a8 :: a9 :: a10 :: a11 :: a12 :: a13 :: a14 :: a15 :: a16 :: a17 :: a18 :: a19 :: S.own (.lst ds) :: r) = f (a0 :: a1 :: a2 :: a3 :: a4 :: a5 :: a6 :: a7 :: a8 :: a9 :: a10 :: a11 :: a12 :: a13 :: a14 :: a15 :: a16 :: a17 :: a18 :: a19 :: S.own (.lst ds) :: r) (fun d δ1 => ownLK δ1 20 fun ds => ds.length < sizeLine ∧ putK δ1 20 (.lst (ds ++ [d])) E.nx) E.xx := by rw [q_app]; simp [ownAt]
theorem k_ao21 {a0 a1 a2 a3 a4 a5 a6 a7 a8 a9 a10 a11 a12 a13 a14 a15 a16 a17 a18 a19 a20 : S} : dApp 21 f E (a0 :: a1 :: a2 :: a3 :: a4 :: a5 :: a6 :: a7 :: a8 :: a9 :: a10 :: a11 :: a12 :: a13 :: a14 :: a15 :: a16 :: a17 :: a18 :: a19 :: a20 :: S.own (.lst ds) :: r) = f (a0 :: a1 :: a2 :: a3 :: a4 :: a5 :: a6 :: a7 :: a8 :: a9 :: a10 :: a11 :: a12 :: a13 :: a14 :: a15 :: a16 :: a17 :: a18 :: a19 :: a20 :: S.own (.lst ds) :: r) (fun d δ1 => ownLK δ1 21 fun ds => ds.length < sizeLine ∧ putK δ1 21 (.lst (ds ++ [d])) E.nx) E.xx := by rw [q_app]; simp [ownAt]
theorem k_ao22 {a0 a1 a2 a3 a4 a5 a6 a7 a8 a9 a10 a11 a12 a13 a14 a15 a16 a17 a18 a19 a20 a21 : S} : dApp 22 f E (a0 :: a1 :: a2 :: a3 :: a4 :: a5 :: a6 :: a7 :: a8 :: a9 :: a10 :: a11 :: a12 :: a13 :: a14 :: a15 :: a16 :: a17 :: a18 :: a19 :: a20 :: a21 :: S.own (.lst ds) :: r) = f (a0 :: a1 :: a2 :: a3 :: a4 :: a5 :: a6 :: a7 :: a8 :: a9 :: a10 :: a11 :: a12 :: a13 :: a14 :: a15 :: a16 :: a17 :: a18 :: a19 :: a20 :: a21 :: S.own (.lst ds) :: r) (fun d δ1 => ownLK δ1 22 fun ds => ds.length < sizeLine ∧ putK δ1 22 (.lst (ds ++ [d])) E.nx) E.xx := by rw [q_app]; simp [ownAt]
theorem k_ao23 {a0 a1 a2 a3 a4 a5 a6 a7 a8 a9 a10 a11 a12 a13 a14 a15 a16 a17 a18 a19 a20 a21 a22 : S} : dApp 23 f E (a0 :: a1 :: a2 :: a3 :: a4 :: a5 :: a6 :: a7 :: a8 :: a9 :: a10 :: a11 :: a12 :: a13 :: a14 :: a15 :: a16 :: a17 :: a18 :: a19 :: a20 :: a21 :: a22 :: S.own (.lst ds) :: r) = f (a0 :: a1 :: a2 :: a3 :: a4 :: a5 :: a6 :: a7 :: a8 :: a9 :: a10 :: a11 :: a12 :: a13 :: a14 :: a15 :: a16 :: a17 :: a18 :: a19 :: a20 :: a21 :: a22 :: S.own (.lst ds) :: r) (fun d δ1 => ownLK δ1 23 fun ds => ds.length < sizeLine ∧ putK δ1 23 (.lst (ds ++ [d])) E.nx) E.xx := by rw [q_app]; simp [ownAt]
theorem k_ao24 {a0 a1 a2 a3 a4 a5 a6 a7 a8 a9 a10 a11 a12 a13 a14 a15 a16 a17 a18 a19 a20 a21 a22 a23 : S} : dApp 24 f E (a0 :: a1 :: a2 :: a3 :: a4 :: a5 :: a6 :: a7 :: a8 :: a9 :: a10 :: a11 :: a12 :: a13 :: a14 :: a15 :: a16 :: a17 :: a18 :: a19 :: a20 :: a21 :: a22 :: a23 :: S.own (.lst ds) :: r) = f (a0 :: a1 :: a2 :: a3 :: a4 :: a5 :: a6 :: a7 :: a8 :: a9 :: a10 :: a11 :: a12 :: a13 :: a14 :: a15 :: a16 :: a17 :: a18 :: a19 :: a20 :: a21 :: a22 :: a23 :: S.own (.lst ds) :: r) (fun d δ1 => ownLK δ1 24 fun ds => ds.length < sizeLine ∧ putK δ1 24 (.lst (ds ++ [d])) E.nx) E.xx := by rw [q_app]; simp [ownAt]
theorem k_ao25 {a0 a1 a2 a3 a4 a5 a6 a7 a8 a9 a10 a11 a12 a13 a14 a15 a16 a17 a18 a19 a20 a21 a22 a23 a24 : S} : dApp 25 f E (a0 :: a1 :: a2 :: a3 :: a4 :: a5 :: a6 :: a7 :: a8 :: a9 :: a10 :: a11 :: a12 :: a13 :: a14 :: a15 :: a16 :: a17 :: a18 :: a19 :: a20 :: a21 :: a22 :: a23 :: a24 :: S.own (.lst ds) :: r) = f (a0 :: a1 :: a2 :: a3 :: a4 :: a5 :: a6 :: a7 :: a8 :: a9 :: a10 :: a11 :: a12 :: a13 :: a14 :: a15 :: a16 :: a17 :: a18 :: a19 :: a20 :: a21 :: a22 :: a23 :: a24 :: S.own (.lst ds) :: r) (fun d δ1 => ownLK δ1 25 fun ds => ds.length < sizeLine ∧ putK δ1 25 (.lst (ds ++ [d])) E.nx) E.xx := by rw [q_app]; simp [ownAt]
theorem k_al0 : dApp 0 f E (S.lent (.lst ds) :: r) = f (S.lent (.lst ds) :: r) (fun d δ1 => ownLK δ1 0 fun ds => ds.length < sizeLine ∧ putK δ1 0 (.lst (ds ++ [d])) E.nx) E.xx := by rw [q_app]; simp [ownAt]
theorem k_al1 {a0 : S} : dApp 1 f E (a0 :: S.lent (.lst ds) :: r) = f (a0 :: S.lent (.lst ds) :: r) (fun d δ1 => ownLK δ1 1 fun ds => ds.length < sizeLine ∧ putK δ1 1 (.lst (ds ++ [d])) E.nx) E.xx := by rw [q_app]; simp [ownAt]
theorem k_al2 {a0 a1 : S} : dApp 2 f E (a0 :: a1 :: S.lent (.lst ds) :: r) = f (a0 :: a1 :: S.lent (.lst ds) :: r) (fun d δ1 => ownLK δ1 2 fun ds => ds.length < sizeLine ∧ putK δ1 2 (.lst (ds ++ [d])) E.nx) E.xx := by rw [q_app]; simp [ownAt]
theorem k_al3 {a0 a1 a2 : S} : dApp 3 f E (a0 :: a1 :: a2 :: S.lent (.lst ds) :: r) = f (a0 :: a1 :: a2 :: S.lent (.lst ds) :: r) (fun d δ1 => ownLK δ1 3 fun ds => ds.length < sizeLine ∧ putK δ1 3 (.lst (ds ++ [d])) E.nx) E.xx := by rw [q_app]; simp [ownAt]
theorem k_al4 {a0 a1 a2 a3 : S} : dApp 4 f E (a0 :: a1 :: a2 :: a3 :: S.lent (.lst ds) :: r) = f (a0 :: a1 :: a2 :: a3 :: S.lent (.lst ds) :: r) (fun d δ1 => ownLK δ1 4 fun ds => ds.length < sizeLine ∧ putK δ1 4 (.lst (ds ++ [d])) E.nx) E.xx := by rw [q_app]; simp [ownAt]
theorem k_al5 {a0 a1 a2 a3 a4 : S} : dApp 5 f E (a0 :: a1 :: a2 :: a3 :: a4 :: S.lent (.lst ds) :: r) = f (a0 :: a1 :: a2 :: a3 :: a4 :: S.lent (.lst ds) :: r) (fun d δ1 => ownLK δ1 5 fun ds => ds.length < sizeLine ∧ putK δ1 5 (.lst (ds ++ [d])) E.nx) E.xx := by rw [q_app]; simp [ownAt]
theorem k_al6 {a0 a1 a2 a3 a4 a5 : S} : dApp 6 f E (a0 :: a1 :: a2 :: a3 :: a4 :: a5 :: S.lent (.lst ds) :: r) = f (a0 :: a1 :: a2 :: a3 :: a4 :: a5 :: S.lent (.lst ds) :: r) (fun d δ1 => ownLK δ1 6 fun ds => ds.length < sizeLine ∧ putK δ1 6 (.lst (ds ++ [d])) E.nx) E.xx := by rw [q_app]; simp [ownAt]
theorem k_al7 {a0 a1 a2 a3 a4 a5 a6 : S} : dApp 7 f E (a0 :: a1 :: a2 :: a3 :: a4 :: a5 :: a6 :: S.lent (.lst ds) :: r) = f (a0 :: a1 :: a2 :: a3 :: a4 :: a5 :: a6 :: S.lent (.lst ds) :: r) (fun d δ1 => ownLK δ1 7 fun ds => ds.length < sizeLine ∧ putK δ1 7 (.lst (ds ++ [d])) E.nx) E.xx := by rw [q_app]; simp [ownAt]
theorem k_al8 {a0 a1 a2 a3 a4 a5 a6 a7 : S} : dApp 8 f E (a0 :: a1 :: a2 :: a3 :: a4 :: a5 :: a6 :: a7 :: S.lent (.lst ds) :: r) = f (a0 :: a1 :: a2 :: a3 :: a4 :: a5 :: a6 :: a7 :: S.lent (.lst ds) :: r) (fun d δ1 => ownLK δ1 8 fun ds => ds.length < sizeLine ∧ putK δ1 8 (.lst (ds ++ [d])) E.nx) E.xx := by rw [q_app]; simp [ownAt]
theorem k_al9 {a0 a1 a2 a3 a4 a5 a6 a7 a8 : S} : dApp 9 f E (a0 :: a1 :: a2 :: a3 :: a4 :: a5 :: a6 :: a7 :: a8 :: S.lent (.lst ds) :: r) = f (a0 :: a1 :: a2 :: a3 :: a4 :: a5 :: a6 :: a7 :: a8 :: S.lent (.lst ds) :: r) (fun d δ1 => ownLK δ1 9 fun ds => ds.length < sizeLine ∧ putK δ1 9 (.lst (ds ++ [d])) E.nx) E.xx := by rw [q_app]; simp [ownAt]
theorem k_al10 {a0 a1 a2 a3 a4 a5 a6 a7 a8 a9 : S} : dApp 10 f E (a0 :: a1 :: a2 :: a3 :: a4 :: a5 :: a6 :: a7 :: a8 :: a9 :: S.lent (.lst ds) :: r) = f (a0 :: a1 :: a2 :: a3 :: a4 :: a5 :: a6 :: a7 :: a8 :: a9 :: S.lent (.lst ds) :: r) (fun d δ1 => ownLK δ1 10 fun ds => ds.length < sizeLine ∧ putK δ1 10 (.lst (ds ++ [d])) E.nx) E.xx := by rw [q_app]; simp [ownAt]
theorem k_al11 {a0 a1 a2 a3 a4 a5 a6 a7 a8 a9 a10 : S} : dApp 11 f E (a0 :: a1 :: a2 :: a3 :: a4 :: a5 :: a6 :: a7 :: a8 :: a9 :: a10 :: S.lent (.lst ds) :: r) = f (a0 :: a1 :: a2 :: a3 :: a4 :: a5 :: a6 :: a7 :: a8 :: a9 :: a10 :: S.lent (.lst ds) :: r) (fun d δ1 => ownLK δ1 11 fun ds => ds.length < sizeLine ∧ putK δ1 11 (.lst (ds ++ [d])) E.nx) E.xx := by rw [q_app]; simp [ownAt]
theorem k_al12 {a0 a1 a2 a3 a4 a5 a6 a7 a8 a9 a10 a11 : S} : dApp 12 f E (a0 :: a1 :: a2 :: a3 :: a4 :: a5 :: a6 :: a7 :: a8 :: a9 :: a10 :: a11 :: S.lent (.lst ds) :: r) = f (a0 :: a1 :: a2 :: a3 :: a4 :: a5 :: a6 :: a7 :: a8 :: a9 :: a10 :: a11 :: S.lent (.lst ds) :: r) (fun d δ1 => ownLK δ1 12 fun ds => ds.length < sizeLine ∧ putK δ1 12 (.lst (ds ++ [d])) E.nx) E.xx := by rw [q_app]; simp [ownAt]
theorem k_al13 {a0 a1 a2 a3 a4 a5 a6 a7 a8 a9 a10 a11 a12 : S} : dApp 13 f E (a0 :: a1 :: a2 :: a3 :: a4 :: a5 :: a6 :: a7 :: a8 :: a9 :: a10 :: a11 :: a12 :: S.lent (.lst ds) :: r) = f (a0 :: a1 :: a2 :: a3 :: a4 :: a5 :: a6 :: a7 :: a8 :: a9 :: a10 :: a11 :: a12 :: S.lent (.lst ds) :: r) (fun d δ1 => ownLK δ1 13 fun ds => ds.length < sizeLine ∧ putK δ1 13 (.lst (ds ++ [d])) E.nx) E.xx := by rw [q_app]; simp [ownAt]
theorem k_al14 {a0 a1 a2 a3 a4 a5 a6 a7 a8 a9 a10 a11 a12 a13 : S} : dApp 14 f E (a0 :: a1 :: a2 :: a3 :: a4 :: a5 :: a6 :: a7 :: a8 :: a9 :: a10 :: a11 :: a12 :: a13 :: S.lent (.lst ds) :: r) = f (a0 :: a1 :: a2 :: a3 :: a4 :: a5 :: a6 :: a7 :: a8 :: a9 :: a10 :: a11 :: a12 :: a13 :: S.lent (.lst ds) :: r) (fun d δ1 => ownLK δ1 14 fun ds => ds.length < sizeLine ∧ putK δ1 14 (.lst (ds ++ [d])) E.nx) E.xx := by rw [q_app]; simp [ownAt]
theorem k_al15 {a0 a1 a2 a3 a4 a5 a6 a7 a8 a9 a10 a11 a12 a13 a14 : S} : dApp 15 f E (a0 :: a1 :: a2 :: a3 :: a4 :: a5 :: a6 :: a7 :: a8 :: a9 :: a10 :: a11 :: a12 :: a13 :: a14 :: S.lent (.lst ds) :: r) = f (a0 :: a1 :: a2 :: a3 :: a4 :: a5 :: a6 :: a7 :: a8 :: a9 :: a10 :: a11 :: a12 :: a13 :: a14 :: S.lent (.lst ds) :: r) (fun d δ1 => ownLK δ1 15 fun ds => ds.length < sizeLine ∧ putK δ1 15 (.lst (ds ++ [d])) E.nx) E.xx := by rw [q_app]; simp [ownAt]
theorem k_al16 {a0 a1 a2 a3 a4 a5 a6 a7 a8 a9 a10 a11 a12 a13 a14 a15 : S} : dApp 16 f E (a0 :: a1 :: a2 :: a3 :: a4 :: a5 :: a6 :: a7 :: a8 :: a9 :: a10 :: a11 :: a12 :: a13 :: a14 :: a15 :: S.lent (.lst ds) :: r) = f (a0 :: a1 :: a2 :: a3 :: a4 :: a5 :: a6 :: a7 :: a8 :: a9 :: a10 :: a11 :: a12 :: a13 :: a14 :: a15 :: S.lent (.lst ds) :: r) (fun d δ1 => ownLK δ1 16 fun ds => ds.length < sizeLine ∧ putK δ1 16 (.lst (ds ++ [d])) E.nx) E.xx := by rw [q_app]; simp [ownAt]
theorem k_al17 {a0 a1 a2 a3 a4 a5 a6 a7 a8 a9 a10 a11 a12 a13 a14 a15 a16 : S} : dApp 17 f E (a0 :: a1 :: a2 :: a3 :: a4 :: a5 :: a6 :: a7 :: a8 :: a9 :: a10 :: a11 :: a12 :: a13 :: a14 :: a15 :: a16 :: S.lent (.lst ds) :: r) = f (a0 :: a1 :: a2 :: a3 :: a4 :: a5 :: a6 :: a7 :: a8 :: a9 :: a10 :: a11 :: a12 :: a13 :: a14 :: a15 :: a16 :: S.lent (.lst ds) :: r) (fun d δ1 => ownLK δ1 17 fun ds => ds.length < sizeLine ∧ putK δ1 17 (.lst (ds ++ [d])) E.nx) E.xx := by rw [q_app]; simp [ownAt]
theorem k_al18 {a0 a1 a2 a3 a4 a5 a6 a7 a8 a9 a10 a11 a12 a13 a14 a15 a16 a17 : S} : dApp 18 f E (a0 :: a1 :: a2 :: a3 :: a4 :: a5 :: a6 :: a7 :: a8 :: a9 :: a10 :: a11 :: a12 :: a13 :: a14 :: a15 :: a16 :: a17 :: S.lent (.lst ds) :: r) = f (a0 :: a1 :: a2 :: a3 :: a4 :: a5 :: a6 :: a7 :: a8 :: a9 :: a10 :: a11 :: a12 :: a13 :: a14 :: a15 :: a16 :: a17 :: S.lent (.lst ds) :: r) (fun d δ1 => ownLK δ1 18 fun ds => ds.length < sizeLine ∧ putK δ1 18 (.lst (ds ++ [d])) E.nx) E.xx := by rw [q_app]; simp [ownAt]
theorem k_al19 {a0 a1 a2 a3 a4 a5 a6 a7 a8 a9 a10 a11 a12 a13 a14 a15 a16 a17 a18 : S} : dApp 19 f E (a0 :: a1 :: a2 :: a3 :: a4 :: a5 :: a6 :: a7 :: a8 :: a9 :: a10 :: a11 :: a12 :: a13 :: a14 :: a15 :: a16 :: a17 :: a18 :: S.lent (.lst ds) :: r) = f (a0 :: a1 :: a2 :: a3 :: a4 :: a5 :: a6 :: a7 :: a8 :: a9 :: a10 :: a11 :: a12 :: a13 :: a14 :: a15 :: a16 :: a17 :: a18 :: S.lent (.lst ds) :: r) (fun d δ1 => ownLK δ1 19 fun ds => ds.length < sizeLine ∧ putK δ1 19 (.lst (ds ++ [d])) E.nx) E.xx := by rw [q_app]; simp [ownAt]
theorem k_al20 {a0 a1 a2 a3 a4 a5 a6 a7 a8 a9 a10 a11 a12 a13 a14 a15 a16 a17 a18 a19 : S} : dApp 20 f E (a0 :: a1 :: a2 :: a3 :: a4 :: a5 :: a6 :: a7 :: a8 :: a9 :: a10 :: a11 :: a12 :: a13 :: a14 :: a15 :: a16 :: a17 :: a18 :: a19 :: S.lent (.lst ds) :: r) = f (a0 :: a1 :: a2 :: a3 :: a4 :: a5 :: a6 :: a7 :: a8 :: a9 :: a10 :: a11 :: a12 :: a13 :: a14 :: a15 :: a16 :: a17 :: a18 :: a19 :: S.lent (.lst ds) :: r) (fun d δ1 => ownLK δ1 20 fun ds => ds.length < sizeLine ∧ putK δ1 20 (.lst (ds ++ [d])) E.nx) E.xx := by rw [q_app]; simp [ownAt]
theorem k_al21 {a0 a1 a2 a3 a4 a5 a6 a7 a8 a9 a10 a11 a12 a13 a14 a15 a16 a17 a18 a19 a20 : S} : dApp 21 f E (a0 :: a1 :: a2 :: a3 :: a4 :: a5 :: a6 :: a7 :: a8 :: a9 :: a10 :: a11 :: a12 :: a13 :: a14 :: a15 :: a16 :: a17 :: a18 :: a19 :: a20 :: S.lent (.lst ds) :: r) = f (a0 :: a1 :: a2 :: a3 :: a4 :: a5 :: a6 :: a7 :: a8 :: a9 :: a10 :: a11 :: a12 :: a13 :: a14 :: a15 :: a16 :: a17 :: a18 :: a19 :: a20 :: S.lent (.lst ds) :: r) (fun d δ1 => ownLK δ1 21 fun ds => ds.length < sizeLine ∧ putK δ1 21 (.lst (ds ++ [d])) E.nx) E.xx := by rw [q_app]; simp [ownAt]
theorem k_al22 {a0 a1 a2 a3 a4 a5 a6 a7 a8 a9 a10 a11 a12 a13 a14 a15 a16 a17 a18 a19 a20 a21 : S} : dApp 22 f E (a0 :: a1 :: a2 :: a3 :: a4 :: a5 :: a6 :: a7 :: a8 :: a9 :: a10 :: a11 :: a12 :: a13 :: a14 :: a15 :: a16 :: a17 :: a18 :: a19 :: a20 :: a21 :: S.lent (.lst ds) :: r) = f (a0 :: a1 :: a2 :: a3 :: a4 :: a5 :: a6 :: a7 :: a8 :: a9 :: a10 :: a11 :: a12 :: a13 :: a14 :: a15 :: a16 :: a17 :: a18 :: a19 :: a20 :: a21 :: S.lent (.lst ds) :: r) (fun d δ1 => ownLK δ1 22 fun ds => ds.length < sizeLine ∧ putK δ1 22 (.lst (ds ++ [d])) E.nx) E.xx := by rw [q_app]; simp [ownAt]
theorem k_al23 {a0 a1 a2 a3 a4 a5 a6 a7 a8 a9 a10 a11 a12 a13 a14 a15 a16 a17 a18 a19 a20 a21 a22 : S} : dApp 23 f E (a0 :: a1 :: a2 :: a3 :: a4 :: a5 :: a6 :: a7 :: a8 :: a9 :: a10 :: a11 :: a12 :: a13 :: a14 :: a15 :: a16 :: a17 :: a18 :: a19 :: a20 :: a21 :: a22 :: S.lent (.lst ds) :: r) = f (a0 :: a1 :: a2 :: a3 :: a4 :: a5 :: a6 :: a7 :: a8 :: a9 :: a10 :: a11 :: a12 :: a13 :: a14 :: a15 :: a16 :: a17 :: a18 :: a19 :: a20 :: a21 :: a22 :: S.lent (.lst ds) :: r) (fun d δ1 => ownLK δ1 23 fun ds => ds.length < sizeLine ∧ putK δ1 23 (.lst (ds ++ [d])) E.nx) E.xx := by rw [q_app]; simp [ownAt]
theorem k_al24 {a0 a1 a2 a3 a4 a5 a6 a7 a8 a9 a10 a11 a12 a13 a14 a15 a16 a17 a18 a19 a20 a21 a22 a23 : S} : dApp 24 f E (a0 :: a1 :: a2 :: a3 :: a4 :: a5 :: a6 :: a7 :: a8 :: a9 :: a10 :: a11 :: a12 :: a13 :: a14 :: a15 :: a16 :: a17 :: a18 :: a19 :: a20 :: a21 :: a22 :: a23 :: S.lent (.lst ds) :: r) = f (a0 :: a1 :: a2 :: a3 :: a4 :: a5 :: a6 :: a7 :: a8 :: a9 :: a10 :: a11 :: a12 :: a13 :: a14 :: a15 :: a16 :: a17 :: a18 :: a19 :: a20 :: a21 :: a22 :: a23 :: S.lent (.lst ds) :: r) (fun d δ1 => ownLK δ1 24 fun ds => ds.length < sizeLine ∧ putK δ1 24 (.lst (ds ++ [d])) E.nx) E.xx := by rw [q_app]; simp [ownAt]
theorem k_al25 {a0 a1 a2 a3 a4 a5 a6 a7 a8 a9 a10 a11 a12 a13 a14 a15 a16 a17 a18 a19 a20 a21 a22 a23 a24 : S} : dApp 25 f E (a0 :: a1 :: a2 :: a3 :: a4 :: a5 :: a6 :: a7 :: a8 :: a9 :: a10 :: a11 :: a12 :: a13 :: a14 :: a15 :: a16 :: a17 :: a18 :: a19 :: a20 :: a21 :: a22 :: a23 :: a24 :: S.lent (.lst ds) :: r) = f (a0 :: a1 :: a2 :: a3 :: a4 :: a5 :: a6 :: a7 :: a8 :: a9 :: a10 :: a11 :: a12 :: a13 :: a14 :: a15 :: a16 :: a17 :: a18 :: a19 :: a20 :: a21 :: a22 :: a23 :: a24 :: S.lent (.lst ds) :: r) (fun d δ1 => ownLK δ1 25 fun ds => ds.length < sizeLine ∧ putK δ1 25 (.lst (ds ++ [d])) E.nx) E.xx := by rw [q_app]; simp [ownAt]
theorem k_ro_0 : dRetO 0 E (S.own d :: r) = E.rt d (S.own d :: r) := by unfold dRetO; simp
theorem k_ro_1 {a0 : S} : dRetO 1 E (a0 :: S.own d :: r) = E.rt d (a0 :: S.own d :: r) := by unfold dRetO; simp
theorem k_ro_2 {a0 a1 : S} : dRetO 2 E (a0 :: a1 :: S.own d :: r) = E.rt d (a0 :: a1 :: S.own d :: r) := by unfold dRetO; simp
theorem k_ro_3 {a0 a1 a2 : S} : dRetO 3 E (a0 :: a1 :: a2 :: S.own d :: r) = E.rt d (a0 :: a1 :: a2 :: S.own d :: r) := by unfold dRetO; simp
theorem k_ro_4 {a0 a1 a2 a3 : S} : dRetO 4 E (a0 :: a1 :: a2 :: a3 :: S.own d :: r) = E.rt d (a0 :: a1 :: a2 :: a3 :: S.own d :: r) := by unfold dRetO; simp
theorem k_ro_5 {a0 a1 a2 a3 a4 : S} : dRetO 5 E (a0 :: a1 :: a2 :: a3 :: a4 :: S.own d :: r) = E.rt d (a0 :: a1 :: a2 :: a3 :: a4 :: S.own d :: r) := by unfold dRetO; simp
theorem k_ro_6 {a0 a1 a2 a3 a4 a5 : S} : dRetO 6 E (a0 :: a1 :: a2 :: a3 :: a4 :: a5 :: S.own d :: r) = E.rt d (a0 :: a1 :: a2 :: a3 :: a4 :: a5 :: S.own d :: r) := by unfold dRetO; simp
theorem k_ro_7 {a0 a1 a2 a3 a4 a5 a6 : S} : dRetO 7 E (a0 :: a1 :: a2 :: a3 :: a4 :: a5 :: a6 :: S.own d :: r) = E.rt d (a0 :: a1 :: a2 :: a3 :: a4 :: a5 :: a6 :: S.own d :: r) := by unfold dRetO; simp
theorem k_ro_8 {a0 a1 a2 a3 a4 a5 a6 a7 : S} : dRetO 8 E (a0 :: a1 :: a2 :: a3 :: a4 :: a5 :: a6 :: a7 :: S.own d :: r) = E.rt d (a0 :: a1 :: a2 :: a3 :: a4 :: a5 :: a6 :: a7 :: S.own d :: r) := by unfold dRetO; simp
theorem k_ro_9 {a0 a1 a2 a3 a4 a5 a6 a7 a8 : S} : dRetO 9 E (a0 :: a1 :: a2 :: a3 :: a4 :: a5 :: a6 :: a7 :: a8 :: S.own d :: r) = E.rt d (a0 :: a1 :: a2 :: a3 :: a4 :: a5 :: a6 :: a7 :: a8 :: S.own d :: r) := by unfold dRetO; simp
theorem k_ro_10 {a0 a1 a2 a3 a4 a5 a6 a7 a8 a9 : S} : dRetO 10 E (a0 :: a1 :: a2 :: a3 :: a4 :: a5 :: a6 :: a7 :: a8 :: a9 :: S.own d :: r) = E.rt d (a0 :: a1 :: a2 :: a3 :: a4 :: a5 :: a6 :: a7 :: a8 :: a9 :: S.own d :: r) := by unfold dRetO; simp
theorem k_ro_11 {a0 a1 a2 a3 a4 a5 a6 a7 a8 a9 a10 : S} : dRetO 11 E (a0 :: a1 :: a2 :: a3 :: a4 :: a5 :: a6 :: a7 :: a8 :: a9 :: a10 :: S.own d :: r) = E.rt d (a0 :: a1 :: a2 :: a3 :: a4 :: a5 :: a6 :: a7 :: a8 :: a9 :: a10 :: S.own d :: r) := by unfold dRetO; simp
theorem k_ro_12 {a0 a1 a2 a3 a4 a5 a6 a7 a8 a9 a10 a11 : S} : dRetO 12 E (a0 :: a1 :: a2 :: a3 :: a4 :: a5 :: a6 :: a7 :: a8 :: a9 :: a10 :: a11 :: S.own d :: r) = E.rt d (a0 :: a1 :: a2 :: a3 :: a4 :: a5 :: a6 :: a7 :: a8 :: a9 :: a10 :: a11 :: S.own d :: r) := by unfold dRetO; simp
theorem k_ro_13 {a0 a1 a2 a3 a4 a5 a6 a7 a8 a9 a10 a11 a12 : S} : dRetO 13 E (a0 :: a1 :: a2 :: a3 :: a4 :: a5 :: a6 :: a7 :: a8 :: a9 :: a10 :: a11 :: a12 :: S.own d :: r) = E.rt d (a0 :: a1 :: a2 :: a3 :: a4 :: a5 :: a6 :: a7 :: a8 :: a9 :: a10 :: a11 :: a12 :: S.own d :: r) := by unfold dRetO; simp
theorem k_ro_14 {a0 a1 a2 a3 a4 a5 a6 a7 a8 a9 a10 a11 a12 a13 : S} : dRetO 14 E (a0 :: a1 :: a2 :: a3 :: a4 :: a5 :: a6 :: a7 :: a8 :: a9 :: a10 :: a11 :: a12 :: a13 :: S.own d :: r) = E.rt d (a0 :: a1 :: a2 :: a3 :: a4 :: a5 :: a6 :: a7 :: a8 :: a9 :: a10 :: a11 :: a12 :: a13 :: S.own d :: r) := by unfold dRetO; simp
theorem k_ro_15 {a0 a1 a2 a3 a4 a5 a6 a7 a8 a9 a10 a11 a12 a13 a14 : S} : dRetO 15 E (a0 :: a1 :: a2 :: a3 :: a4 :: a5 :: a6 :: a7 :: a8 :: a9 :: a10 :: a11 :: a12 :: a13 :: a14 :: S.own d :: r) = E.rt d (a0 :: a1 :: a2 :: a3 :: a4 :: a5 :: a6 :: a7 :: a8 :: a9 :: a10 :: a11 :: a12 :: a13 :: a14 :: S.own d :: r) := by unfold dRetO; simp
theorem k_ro_16 {a0 a1 a2 a3 a4 a5 a6 a7 a8 a9 a10 a11 a12 a13 a14 a15 : S} : dRetO 16 E (a0 :: a1 :: a2 :: a3 :: a4 :: a5 :: a6 :: a7 :: a8 :: a9 :: a10 :: a11 :: a12 :: a13 :: a14 :: a15 :: S.own d :: r) = E.rt d (a0 :: a1 :: a2 :: a3 :: a4 :: a5 :: a6 :: a7 :: a8 :: a9 :: a10 :: a11 :: a12 :: a13 :: a14 :: a15 :: S.own d :: r) := by unfold dRetO; simp
theorem k_ro_17 {a0 a1 a2 a3 a4 a5 a6 a7 a8 a9 a10 a11 a12 a13 a14 a15 a16 : S} : dRetO 17 E (a0 :: a1 :: a2 :: a3 :: a4 :: a5 :: a6 :: a7 :: a8 :: a9 :: a10 :: a11 :: a12 :: a13 :: a14 :: a15 :: a16 :: S.own d :: r) = E.rt d (a0 :: a1 :: a2 :: a3 :: a4 :: a5 :: a6 :: a7 :: a8 :: a9 :: a10 :: a11 :: a12 :: a13 :: a14 :: a15 :: a16 :: S.own d :: r) := by unfold dRetO; simp
theorem k_ro_18 {a0 a1 a2 a3 a4 a5 a6 a7 a8 a9 a10 a11 a12 a13 a14 a15 a16 a17 : S} : dRetO 18 E (a0 :: a1 :: a2 :: a3 :: a4 :: a5 :: a6 :: a7 :: a8 :: a9 :: a10 :: a11 :: a12 :: a13 :: a14 :: a15 :: a16 :: a17 :: S.own d :: r) = E.rt d (a0 :: a1 :: a2 :: a3 :: a4 :: a5 :: a6 :: a7 :: a8 :: a9 :: a10 :: a11 :: a12 :: a13 :: a14 :: a15 :: a16 :: a17 :: S.own d :: r) := by unfold dRetO; simp
theorem k_ro_19 {a0 a1 a2 a3 a4 a5 a6 a7 a8 a9 a10 a11 a12 a13 a14 a15 a16 a17 a18 : S} : dRetO 19 E (a0 :: a1 :: a2 :: a3 :: a4 :: a5 :: a6 :: a7 :: a8 :: a9 :: a10 :: a11 :: a12 :: a13 :: a14 :: a15 :: a16 :: a17 :: a18 :: S.own d :: r) = E.rt d (a0 :: a1 :: a2 :: a3 :: a4 :: a5 :: a6 :: a7 :: a8 :: a9 :: a10 :: a11 :: a12 :: a13 :: a14 :: a15 :: a16 :: a17 :: a18 :: S.own d :: r) := by unfold dRetO; simp
theorem k_ro_20 {a0 a1 a2 a3 a4 a5 a6 a7 a8 a9 a10 a11 a12 a13 a14 a15 a16 a17 a18 a19 : S} : dRetO 20 E (a0 :: a1 :: a2 :: a3 :: a4 :: a5 :: a6 :: a7 :: a8 :: a9 :: a10 :: a11 :: a12 :: a13 :: a14 :: a15 :: a16 :: a17 :: a18 :: a19 :: S.own d :: r) = E.rt d (a0 :: a1 :: a2 :: a3 :: a4 :: a5 :: a6 :: a7 :: a8 :: a9 :: a10 :: a11 :: a12 :: a13 :: a14 :: a15 :: a16 :: a17 :: a18 :: a19 :: S.own d :: r) := by unfold dRetO; simp
theorem k_ro_21 {a0 a1 a2 a3 a4 a5 a6 a7 a8 a9 a10 a11 a12 a13 a14 a15 a16 a17 a18 a19 a20 : S} : dRetO 21 E (a0 :: a1 :: a2 :: a3 :: a4 :: a5 :: a6 :: a7 :: a8 :: a9 :: a10 :: a11 :: a12 :: a13 :: a14 :: a15 :: a16 :: a17 :: a18 :: a19 :: a20 :: S.own d :: r) = E.rt d (a0 :: a1 :: a2 :: a3 :: a4 :: a5 :: a6 :: a7 :: a8 :: a9 :: a10 :: a11 :: a12 :: a13 :: a14 :: a15 :: a16 :: a17 :: a18 :: a19 :: a20 :: S.own d :: r) := by unfold dRetO; simp
theorem k_ro_22 {a0 a1 a2 a3 a4 a5 a6 a7 a8 a9 a10 a11 a12 a13 a14 a15 a16 a17 a18 a19 a20 a21 : S} : dRetO 22 E (a0 :: a1 :: a2 :: a3 :: a4 :: a5 :: a6 :: a7 :: a8 :: a9 :: a10 :: a11 :: a12 :: a13 :: a14 :: a15 :: a16 :: a17 :: a18 :: a19 :: a20 :: a21 :: S.own d :: r) = E.rt d (a0 :: a1 :: a2 :: a3 :: a4 :: a5 :: a6 :: a7 :: a8 :: a9 :: a10 :: a11 :: a12 :: a13 :: a14 :: a15 :: a16 :: a17 :: a18 :: a19 :: a20 :: a21 :: S.own d :: r) := by unfold dRetO; simp
theorem k_ro_23 {a0 a1 a2 a3 a4 a5 a6 a7 a8 a9 a10 a11 a12 a13 a14 a15 a16 a17 a18 a19 a20 a21 a22 : S} : dRetO 23 E (a0 :: a1 :: a2 :: a3 :: a4 :: a5 :: a6 :: a7 :: a8 :: a9 :: a10 :: a11 :: a12 :: a13 :: a14 :: a15 :: a16 :: a17 :: a18 :: a19 :: a20 :: a21 :: a22 :: S.own d :: r) = E.rt d (a0 :: a1 :: a2 :: a3 :: a4 :: a5 :: a6 :: a7 :: a8 :: a9 :: a10 :: a11 :: a12 :: a13 :: a14 :: a15 :: a16 :: a17 :: a18 :: a19 :: a20 :: a21 :: a22 :: S.own d :: r) := by unfold dRetO; simp
theorem k_ro_24 {a0 a1 a2 a3 a4 a5 a6 a7 a8 a9 a10 a11 a12 a13 a14 a15 a16 a17 a18 a19 a20 a21 a22 a23 : S} : dRetO 24 E (a0 :: a1 :: a2 :: a3 :: a4 :: a5 :: a6 :: a7 :: a8 :: a9 :: a10 :: a11 :: a12 :: a13 :: a14 :: a15 :: a16 :: a17 :: a18 :: a19 :: a20 :: a21 :: a22 :: a23 :: S.own d :: r) = E.rt d (a0 :: a1 :: a2 :: a3 :: a4 :: a5 :: a6 :: a7 :: a8 :: a9 :: a10 :: a11 :: a12 :: a13 :: a14 :: a15 :: a16 :: a17 :: a18 :: a19 :: a20 :: a21 :: a22 :: a23 :: S.own d :: r) := by unfold dRetO; simp
theorem k_ro_25 {a0 a1 a2 a3 a4 a5 a6 a7 a8 a9 a10 a11 a12 a13 a14 a15 a16 a17 a18 a19 a20 a21 a22 a23 a24 : S} : dRetO 25 E (a0 :: a1 :: a2 :: a3 :: a4 :: a5 :: a6 :: a7 :: a8 :: a9 :: a10 :: a11 :: a12 :: a13 :: a14 :: a15 :: a16 :: a17 :: a18 :: a19 :: a20 :: a21 :: a22 :: a23 :: a24 :: S.own d :: r) = E.rt d (a0 :: a1 :: a2 :: a3 :: a4 :: a5 :: a6 :: a7 :: a8 :: a9 :: a10 :: a11 :: a12 :: a13 :: a14 :: a15 :: a16 :: a17 :: a18 :: a19 :: a20 :: a21 :: a22 :: a23 :: a24 :: S.own d :: r) := by unfold dRetO; simp
theorem k_au0 : (∃ n, (S.v (.int x) :: r)[0]? = some (S.v (.int n)) ∧ ki n) = ki x := by simp
theorem k_au1 {a0 : S} : (∃ n, (a0 :: S.v (.int x) :: r)[1]? = some (S.v (.int n)) ∧ ki n) = ki x := by simp
theorem k_au2 {a0 a1 : S} : (∃ n, (a0 :: a1 :: S.v (.int x) :: r)[2]? = some (S.v (.int n)) ∧ ki n) = ki x := by simp
theorem k_au3 {a0 a1 a2 : S} : (∃ n, (a0 :: a1 :: a2 :: S.v (.int x) :: r)[3]? = some (S.v (.int n)) ∧ ki n) = ki x := by simp
theorem k_au4 {a0 a1 a2 a3 : S} : (∃ n, (a0 :: a1 :: a2 :: a3 :: S.v (.int x) :: r)[4]? = some (S.v (.int n)) ∧ ki n) = ki x := by simp
theorem k_au5 {a0 a1 a2 a3 a4 : S} : (∃ n, (a0 :: a1 :: a2 :: a3 :: a4 :: S.v (.int x) :: r)[5]? = some (S.v (.int n)) ∧ ki n) = ki x := by simp
theorem k_au6 {a0 a1 a2 a3 a4 a5 : S} : (∃ n, (a0 :: a1 :: a2 :: a3 :: a4 :: a5 :: S.v (.int x) :: r)[6]? = some (S.v (.int n)) ∧ ki n) = ki x := by simp
theorem k_au7 {a0 a1 a2 a3 a4 a5 a6 : S} : (∃ n, (a0 :: a1 :: a2 :: a3 :: a4 :: a5 :: a6 :: S.v (.int x) :: r)[7]? = some (S.v (.int n)) ∧ ki n) = ki x := by simp
theorem k_au8 {a0 a1 a2 a3 a4 a5 a6 a7 : S} : (∃ n, (a0 :: a1 :: a2 :: a3 :: a4 :: a5 :: a6 :: a7 :: S.v (.int x) :: r)[8]? = some (S.v (.int n)) ∧ ki n) = ki x := by simp
theorem k_au9 {a0 a1 a2 a3 a4 a5 a6 a7 a8 : S} : (∃ n, (a0 :: a1 :: a2 :: a3 :: a4 :: a5 :: a6 :: a7 :: a8 :: S.v (.int x) :: r)[9]? = some (S.v (.int n)) ∧ ki n) = ki x := by simp
theorem k_au10 {a0 a1 a2 a3 a4 a5 a6 a7 a8 a9 : S} : (∃ n, (a0 :: a1 :: a2 :: a3 :: a4 :: a5 :: a6 :: a7 :: a8 :: a9 :: S.v (.int x) :: r)[10]? = some (S.v (.int n)) ∧ ki n) = ki x := by simp
theorem k_au11 {a0 a1 a2 a3 a4 a5 a6 a7 a8 a9 a10 : S} : (∃ n, (a0 :: a1 :: a2 :: a3 :: a4 :: a5 :: a6 :: a7 :: a8 :: a9 :: a10 :: S.v (.int x) :: r)[11]? = some (S.v (.int n)) ∧ ki n) = ki x := by simp
theorem k_au12 {a0 a1 a2 a3 a4 a5 a6 a7 a8 a9 a10 a11 : S} : (∃ n, (a0 :: a1 :: a2 :: a3 :: a4 :: a5 :: a6 :: a7 :: a8 :: a9 :: a10 :: a11 :: S.v (.int x) :: r)[12]? = some (S.v (.int n)) ∧ ki n) = ki x := by simp
theorem k_au13 {a0 a1 a2 a3 a4 a5 a6 a7 a8 a9 a10 a11 a12 : S} : (∃ n, (a0 :: a1 :: a2 :: a3 :: a4 :: a5 :: a6 :: a7 :: a8 :: a9 :: a10 :: a11 :: a12 :: S.v (.int x) :: r)[13]? = some (S.v (.int n)) ∧ ki n) = ki x := by simp
theorem k_au14 {a0 a1 a2 a3 a4 a5 a6 a7 a8 a9 a10 a11 a12 a13 : S} : (∃ n, (a0 :: a1 :: a2 :: a3 :: a4 :: a5 :: a6 :: a7 :: a8 :: a9 :: a10 :: a11 :: a12 :: a13 :: S.v (.int x) :: r)[14]? = some (S.v (.int n)) ∧ ki n) = ki x := by simp
theorem k_au15 {a0 a1 a2 a3 a4 a5 a6 a7 a8 a9 a10 a11 a12 a13 a14 : S} : (∃ n, (a0 :: a1 :: a2 :: a3 :: a4 :: a5 :: a6 :: a7 :: a8 :: a9 :: a10 :: a11 :: a12 :: a13 :: a14 :: S.v (.int x) :: r)[15]? = some (S.v (.int n)) ∧ ki n) = ki x := by simp
theorem k_au16 {a0 a1 a2 a3 a4 a5 a6 a7 a8 a9 a10 a11 a12 a13 a14 a15 : S} : (∃ n, (a0 :: a1 :: a2 :: a3 :: a4 :: a5 :: a6 :: a7 :: a8 :: a9 :: a10 :: a11 :: a12 :: a13 :: a14 :: a15 :: S.v (.int x) :: r)[16]? = some (S.v (.int n)) ∧ ki n) = ki x := by simp
theorem k_au17 {a0 a1 a2 a3 a4 a5 a6 a7 a8 a9 a10 a11 a12 a13 a14 a15 a16 : S} : (∃ n, (a0 :: a1 :: a2 :: a3 :: a4 :: a5 :: a6 :: a7 :: a8 :: a9 :: a10 :: a11 :: a12 :: a13 :: a14 :: a15 :: a16 :: S.v (.int x) :: r)[17]? = some (S.v (.int n)) ∧ ki n) = ki x := by simp
theorem k_au18 {a0 a1 a2 a3 a4 a5 a6 a7 a8 a9 a10 a11 a12 a13 a14 a15 a16 a17 : S} : (∃ n, (a0 :: a1 :: a2 :: a3 :: a4 :: a5 :: a6 :: a7 :: a8 :: a9 :: a10 :: a11 :: a12 :: a13 :: a14 :: a15 :: a16 :: a17 :: S.v (.int x) :: r)[18]? = some (S.v (.int n)) ∧ ki n) = ki x := by simp
theorem k_au19 {a0 a1 a2 a3 a4 a5 a6 a7 a8 a9 a10 a11 a12 a13 a14 a15 a16 a17 a18 : S} : (∃ n, (a0 :: a1 :: a2 :: a3 :: a4 :: a5 :: a6 :: a7 :: a8 :: a9 :: a10 :: a11 :: a12 :: a13 :: a14 :: a15 :: a16 :: a17 :: a18 :: S.v (.int x) :: r)[19]? = some (S.v (.int n)) ∧ ki n) = ki x := by simp
theorem k_au20 {a0 a1 a2 a3 a4 a5 a6 a7 a8 a9 a10 a11 a12 a13 a14 a15 a16 a17 a18 a19 : S} : (∃ n, (a0 :: a1 :: a2 :: a3 :: a4 :: a5 :: a6 :: a7 :: a8 :: a9 :: a10 :: a11 :: a12 :: a13 :: a14 :: a15 :: a16 :: a17 :: a18 :: a19 :: S.v (.int x) :: r)[20]? = some (S.v (.int n)) ∧ ki n) = ki x := by simp
theorem k_au21 {a0 a1 a2 a3 a4 a5 a6 a7 a8 a9 a10 a11 a12 a13 a14 a15 a16 a17 a18 a19 a20 : S} : (∃ n, (a0 :: a1 :: a2 :: a3 :: a4 :: a5 :: a6 :: a7 :: a8 :: a9 :: a10 :: a11 :: a12 :: a13 :: a14 :: a15 :: a16 :: a17 :: a18 :: a19 :: a20 :: S.v (.int x) :: r)[21]? = some (S.v (.int n)) ∧ ki n) = ki x := by simp
theorem k_au22 {a0 a1 a2 a3 a4 a5 a6 a7 a8 a9 a10 a11 a12 a13 a14 a15 a16 a17 a18 a19 a20 a21 : S} : (∃ n, (a0 :: a1 :: a2 :: a3 :: a4 :: a5 :: a6 :: a7 :: a8 :: a9 :: a10 :: a11 :: a12 :: a13 :: a14 :: a15 :: a16 :: a17 :: a18 :: a19 :: a20 :: a21 :: S.v (.int x) :: r)[22]? = some (S.v (.int n)) ∧ ki n) = ki x := by simp
theorem k_au23 {a0 a1 a2 a3 a4 a5 a6 a7 a8 a9 a10 a11 a12 a13 a14 a15 a16 a17 a18 a19 a20 a21 a22 : S} : (∃ n, (a0 :: a1 :: a2 :: a3 :: a4 :: a5 :: a6 :: a7 :: a8 :: a9 :: a10 :: a11 :: a12 :: a13 :: a14 :: a15 :: a16 :: a17 :: a18 :: a19 :: a20 :: a21 :: a22 :: S.v (.int x) :: r)[23]? = some (S.v (.int n)) ∧ ki n) = ki x := by simp
theorem k_au24 {a0 a1 a2 a3 a4 a5 a6 a7 a8 a9 a10 a11 a12 a13 a14 a15 a16 a17 a18 a19 a20 a21 a22 a23 : S} : (∃ n, (a0 :: a1 :: a2 :: a3 :: a4 :: a5 :: a6 :: a7 :: a8 :: a9 :: a10 :: a11 :: a12 :: a13 :: a14 :: a15 :: a16 :: a17 :: a18 :: a19 :: a20 :: a21 :: a22 :: a23 :: S.v (.int x) :: r)[24]? = some (S.v (.int n)) ∧ ki n) = ki x := by simp
theorem k_au25 {a0 a1 a2 a3 a4 a5 a6 a7 a8 a9 a10 a11 a12 a13 a14 a15 a16 a17 a18 a19 a20 a21 a22 a23 a24 : S} : (∃ n, (a0 :: a1 :: a2 :: a3 :: a4 :: a5 :: a6 :: a7 :: a8 :: a9 :: a10 :: a11 :: a12 :: a13 :: a14 :: a15 :: a16 :: a17 :: a18 :: a19 :: a20 :: a21 :: a22 :: a23 :: a24 :: S.v (.int x) :: r)[25]? = some (S.v (.int n)) ∧ ki n) = ki x := by simp
end
theorem rg0 : rngD 0 (Int.toNat 0) = [] := rfl
theorem rg1 : rngD 0 (Int.toNat 1) = [.int 0] := rfl
theorem rg2 : rngD 0 (Int.toNat 2) = [.int 0, .int 1] := rfl
theorem rg3 : rngD 0 (Int.toNat 3) = [.int 0, .int 1, .int 2] := rfl
theorem rg4 : rngD 0 (Int.toNat 4) = [.int 0, .int 1, .int 2, .int 3] := rfl
theorem rg5 : rngD 0 (Int.toNat 5) = [.int 0, .int 1, .int 2, .int 3, .int 4] := rfl
theorem rg6 : rngD 0 (Int.toNat 6) = [.int 0, .int 1, .int 2, .int 3, .int 4, .int 5] := rfl
theorem rg7 : rngD 0 (Int.toNat 7) = [.int 0, .int 1, .int 2, .int 3, .int 4, .int 5, .int 6] := rfl
theorem rg8 : rngD 0 (Int.toNat 8) = [.int 0, .int 1, .int 2, .int 3, .int 4, .int 5, .int 6, .int 7] := rfl
theorem lm0 {Q : D → D → Prop} {z d : D} {r : DEnv} : (∃ e, (S.lent d :: r)[0]? = some (S.lent e) ∧ Q z e) = Q z d := by simp
theorem xs1_0 {a0 d : D} {δ : DEnv} {j : Nat} {k : DEnv → Prop} : (∃ m, ixN [a0].length 0 = some m ∧ putK δ j (.lst ([a0].set m d)) k) = putK δ j (.lst [d]) k := propext ⟨fun ⟨m, e, h⟩ => by cases (show some 0 = some m from e); exact h, fun h => ⟨0, rfl, h⟩⟩
theorem xs2_0 {a0 a1 d : D} {δ : DEnv} {j : Nat} {k : DEnv → Prop} : (∃ m, ixN [a0, a1].length 0 = some m ∧ putK δ j (.lst ([a0, a1].set m d)) k) = putK δ j (.lst [d, a1]) k := propext ⟨fun ⟨m, e, h⟩ => by cases (show some 0 = some m from e); exact h, fun h => ⟨0, rfl, h⟩⟩
theorem xs2_1 {a0 a1 d : D} {δ : DEnv} {j : Nat} {k : DEnv → Prop} : (∃ m, ixN [a0, a1].length 1 = some m ∧ putK δ j (.lst ([a0, a1].set m d)) k) = putK δ j (.lst [a0, d]) k := propext ⟨fun ⟨m, e, h⟩ => by cases (show some 1 = some m from e); exact h, fun h => ⟨1, rfl, h⟩⟩
theorem xs3_0 {a0 a1 a2 d : D} {δ : DEnv} {j : Nat} {k : DEnv → Prop} : (∃ m, ixN [a0, a1, a2].length 0 = some m ∧ putK δ j (.lst ([a0, a1, a2].set m d)) k) = putK δ j (.lst [d, a1, a2]) k := propext ⟨fun ⟨m, e, h⟩ => by cases (show some 0 = some m from e); exact h, fun h => ⟨0, rfl, h⟩⟩
theorem xs3_1 {a0 a1 a2 d : D} {δ : DEnv} {j : Nat} {k : DEnv → Prop} : (∃ m, ixN [a0, a1, a2].length 1 = some m ∧ putK δ j (.lst ([a0, a1, a2].set m d)) k) = putK δ j (.lst [a0, d, a2]) k := propext ⟨fun ⟨m, e, h⟩ => by cases (show some 1 = some m from e); exact h, fun h => ⟨1, rfl, h⟩⟩
theorem xs3_2 {a0 a1 a2 d : D} {δ : DEnv} {j : Nat} {k : DEnv → Prop} : (∃ m, ixN [a0, a1, a2].length 2 = some m ∧ putK δ j (.lst ([a0, a1, a2].set m d)) k) = putK δ j (.lst [a0, a1, d]) k := propext ⟨fun ⟨m, e, h⟩ => by cases (show some 2 = some m from e); exact h, fun h => ⟨2, rfl, h⟩⟩
theorem xs4_0 {a0 a1 a2 a3 d : D} {δ : DEnv} {j : Nat} {k : DEnv → Prop} : (∃ m, ixN [a0, a1, a2, a3].length 0 = some m ∧ putK δ j (.lst ([a0, a1, a2, a3].set m d)) k) = putK δ j (.lst [d, a1, a2, a3]) k := propext ⟨fun ⟨m, e, h⟩ => by cases (show some 0 = some m from e); exact h, fun h => ⟨0, rfl, h⟩⟩
theorem xs4_1 {a0 a1 a2 a3 d : D} {δ : DEnv} {j : Nat} {k : DEnv → Prop} : (∃ m, ixN [a0, a1, a2, a3].length 1 = some m ∧ putK δ j (.lst ([a0, a1, a2, a3].set m d)) k) = putK δ j (.lst [a0, d, a2, a3]) k := propext ⟨fun ⟨m, e, h⟩ => by cases (show some 1 = some m from e); exact h, fun h => ⟨1, rfl, h⟩⟩
theorem xs4_2 {a0 a1 a2 a3 d : D} {δ : DEnv} {j : Nat} {k : DEnv → Prop} : (∃ m, ixN [a0, a1, a2, a3].length 2 = some m ∧ putK δ j (.lst ([a0, a1, a2, a3].set m d)) k) = putK δ j (.lst [a0, a1, d, a3]) k := propext ⟨fun ⟨m, e, h⟩ => by cases (show some 2 = some m from e); exact h, fun h => ⟨2, rfl, h⟩⟩
theorem xs4_3 {a0 a1 a2 a3 d : D} {δ : DEnv} {j : Nat} {k : DEnv → Prop} : (∃ m, ixN [a0, a1, a2, a3].length 3 = some m ∧ putK δ j (.lst ([a0, a1, a2, a3].set m d)) k) = putK δ j (.lst [a0, a1, a2, d]) k := propext ⟨fun ⟨m, e, h⟩ => by cases (show some 3 = some m from e); exact h, fun h => ⟨3, rfl, h⟩⟩
theorem xs5_0 {a0 a1 a2 a3 a4 d : D} {δ : DEnv} {j : Nat} {k : DEnv → Prop} : (∃ m, ixN [a0, a1, a2, a3, a4].length 0 = some m ∧ putK δ j (.lst ([a0, a1, a2, a3, a4].set m d)) k) = putK δ j (.lst [d, a1, a2, a3, a4]) k := propext ⟨fun ⟨m, e, h⟩ => by cases (show some 0 = some m from e); exact h, fun h => ⟨0, rfl, h⟩⟩
theorem xs5_1 {a0 a1 a2 a3 a4 d : D} {δ : DEnv} {j : Nat} {k : DEnv → Prop} : (∃ m, ixN [a0, a1, a2, a3, a4].length 1 = some m ∧ putK δ j (.lst ([a0, a1, a2, a3, a4].set m d)) k) = putK δ j (.lst [a0, d, a2, a3, a4]) k := propext ⟨fun ⟨m, e, h⟩ => by cases (show some 1 = some m from e); exact h, fun h => ⟨1, rfl, h⟩⟩
theorem xs5_2 {a0 a1 a2 a3 a4 d : D} {δ : DEnv} {j : Nat} {k : DEnv → Prop} : (∃ m, ixN [a0, a1, a2, a3, a4].length 2 = some m ∧ putK δ j (.lst ([a0, a1, a2, a3, a4].set m d)) k) = putK δ j (.lst [a0, a1, d, a3, a4]) k := propext ⟨fun ⟨m, e, h⟩ => by cases (show some 2 = some m from e); exact h, fun h => ⟨2, rfl, h⟩⟩
theorem xs5_3 {a0 a1 a2 a3 a4 d : D} {δ : DEnv} {j : Nat} {k : DEnv → Prop} : (∃ m, ixN [a0, a1, a2, a3, a4].length 3 = some m ∧ putK δ j (.lst ([a0, a1, a2, a3, a4].set m d)) k) = putK δ j (.lst [a0, a1, a2, d, a4]) k := propext ⟨fun ⟨m, e, h⟩ => by cases (show some 3 = some m from e); exact h, fun h => ⟨3, rfl, h⟩⟩
theorem xs5_4 {a0 a1 a2 a3 a4 d : D} {δ : DEnv} {j : Nat} {k : DEnv → Prop} : (∃ m, ixN [a0, a1, a2, a3, a4].length 4 = some m ∧ putK δ j (.lst ([a0, a1, a2, a3, a4].set m d)) k) = putK δ j (.lst [a0, a1, a2, a3, d]) k := propext ⟨fun ⟨m, e, h⟩ => by cases (show some 4 = some m from e); exact h, fun h => ⟨4, rfl, h⟩⟩
theorem ak1_m1 {a0 : D} {k : D → Prop} {t : Tag k} : atK [a0] (-1) k t = k a0 := atK_of rfl
theorem ak1_0 {a0 : D} {k : D → Prop} {t : Tag k} : atK [a0] (0) k t = k a0 := atK_of rfl
theorem ak2_m2 {a0 a1 : D} {k : D → Prop} {t : Tag k} : atK [a0, a1] (-2) k t = k a0 := atK_of rfl
theorem ak2_m1 {a0 a1 : D} {k : D → Prop} {t : Tag k} : atK [a0, a1] (-1) k t = k a1 := atK_of rfl
theorem ak2_0 {a0 a1 : D} {k : D → Prop} {t : Tag k} : atK [a0, a1] (0) k t = k a0 := atK_of rfl
theorem ak2_1 {a0 a1 : D} {k : D → Prop} {t : Tag k} : atK [a0, a1] (1) k t = k a1 := atK_of rfl
theorem ak3_m3 {a0 a1 a2 : D} {k : D → Prop} {t : Tag k} : atK [a0, a1, a2] (-3) k t = k a0 := atK_of rfl
theorem ak3_m2 {a0 a1 a2 : D} {k : D → Prop} {t : Tag k} : atK [a0, a1, a2] (-2) k t = k a1 := atK_of rfl
theorem ak3_m1 {a0 a1 a2 : D} {k : D → Prop} {t : Tag k} : atK [a0, a1, a2] (-1) k t = k a2 := atK_of rfl
theorem ak3_0 {a0 a1 a2 : D} {k : D → Prop} {t : Tag k} : atK [a0, a1, a2] (0) k t = k a0 := atK_of rfl
theorem ak3_1 {a0 a1 a2 : D} {k : D → Prop} {t : Tag k} : atK [a0, a1, a2] (1) k t = k a1 := atK_of rfl
theorem ak3_2 {a0 a1 a2 : D} {k : D → Prop} {t : Tag k} : atK [a0, a1, a2] (2) k t = k a2 := atK_of rfl
theorem ak4_m4 {a0 a1 a2 a3 : D} {k : D → Prop} {t : Tag k} : atK [a0, a1, a2, a3] (-4) k t = k a0 := atK_of rfl
theorem ak4_m3 {a0 a1 a2 a3 : D} {k : D → Prop} {t : Tag k} : atK [a0, a1, a2, a3] (-3) k t = k a1 := atK_of rfl
theorem ak4_m2 {a0 a1 a2 a3 : D} {k : D → Prop} {t : Tag k} : atK [a0, a1, a2, a3] (-2) k t = k a2 := atK_of rfl
theorem ak4_m1 {a0 a1 a2 a3 : D} {k : D → Prop} {t : Tag k} : atK [a0, a1, a2, a3] (-1) k t = k a3 := atK_of rfl
theorem ak4_0 {a0 a1 a2 a3 : D} {k : D → Prop} {t : Tag k} : atK [a0, a1, a2, a3] (0) k t = k a0 := atK_of rfl
theorem ak4_1 {a0 a1 a2 a3 : D} {k : D → Prop} {t : Tag k} : atK [a0, a1, a2, a3] (1) k t = k a1 := atK_of rfl
theorem ak4_2 {a0 a1 a2 a3 : D} {k : D → Prop} {t : Tag k} : atK [a0, a1, a2, a3] (2) k t = k a2 := atK_of rfl
theorem ak4_3 {a0 a1 a2 a3 : D} {k : D → Prop} {t : Tag k} : atK [a0, a1, a2, a3] (3) k t = k a3 := atK_of rfl
theorem ak5_m5 {a0 a1 a2 a3 a4 : D} {k : D → Prop} {t : Tag k} : atK [a0, a1, a2, a3, a4] (-5) k t = k a0 := atK_of rfl
theorem ak5_m4 {a0 a1 a2 a3 a4 : D} {k : D → Prop} {t : Tag k} : atK [a0, a1, a2, a3, a4] (-4) k t = k a1 := atK_of rfl
theorem ak5_m3 {a0 a1 a2 a3 a4 : D} {k : D → Prop} {t : Tag k} : atK [a0, a1, a2, a3, a4] (-3) k t = k a2 := atK_of rfl
theorem ak5_m2 {a0 a1 a2 a3 a4 : D} {k : D → Prop} {t : Tag k} : atK [a0, a1, a2, a3, a4] (-2) k t = k a3 := atK_of rfl
theorem ak5_m1 {a0 a1 a2 a3 a4 : D} {k : D → Prop} {t : Tag k} : atK [a0, a1, a2, a3, a4] (-1) k t = k a4 := atK_of rfl
theorem ak5_0 {a0 a1 a2 a3 a4 : D} {k : D → Prop} {t : Tag k} : atK [a0, a1, a2, a3, a4] (0) k t = k a0 := atK_of rfl
theorem ak5_1 {a0 a1 a2 a3 a4 : D} {k : D → Prop} {t : Tag k} : atK [a0, a1, a2, a3, a4] (1) k t = k a1 := atK_of rfl
theorem ak5_2 {a0 a1 a2 a3 a4 : D} {k : D → Prop} {t : Tag k} : atK [a0, a1, a2, a3, a4] (2) k t = k a2 := atK_of rfl
theorem ak5_3 {a0 a1 a2 a3 a4 : D} {k : D → Prop} {t : Tag k} : atK [a0, a1, a2, a3, a4] (3) k t = k a3 := atK_of rfl
theorem ak5_4 {a0 a1 a2 a3 a4 : D} {k : D → Prop} {t : Tag k} : atK [a0, a1, a2, a3, a4] (4) k t = k a4 := atK_of rfl
theorem ak6_m6 {a0 a1 a2 a3 a4 a5 : D} {k : D → Prop} {t : Tag k} : atK [a0, a1, a2, a3, a4, a5] (-6) k t = k a0 := atK_of rfl
theorem ak6_m5 {a0 a1 a2 a3 a4 a5 : D} {k : D → Prop} {t : Tag k} : atK [a0, a1, a2, a3, a4, a5] (-5) k t = k a1 := atK_of rfl
theorem ak6_m4 {a0 a1 a2 a3 a4 a5 : D} {k : D → Prop} {t : Tag k} : atK [a0, a1, a2, a3, a4, a5] (-4) k t = k a2 := atK_of rfl
theorem ak6_m3 {a0 a1 a2 a3 a4 a5 : D} {k : D → Prop} {t : Tag k} : atK [a0, a1, a2, a3, a4, a5] (-3) k t = k a3 := atK_of rfl
theorem ak6_m2 {a0 a1 a2 a3 a4 a5 : D} {k : D → Prop} {t : Tag k} : atK [a0, a1, a2, a3, a4, a5] (-2) k t = k a4 := atK_of rfl
theorem ak6_m1 {a0 a1 a2 a3 a4 a5 : D} {k : D → Prop} {t : Tag k} : atK [a0, a1, a2, a3, a4, a5] (-1) k t = k a5 := atK_of rfl
theorem ak6_0 {a0 a1 a2 a3 a4 a5 : D} {k : D → Prop} {t : Tag k} : atK [a0, a1, a2, a3, a4, a5] (0) k t = k a0 := atK_of rfl
theorem ak6_1 {a0 a1 a2 a3 a4 a5 : D} {k : D → Prop} {t : Tag k} : atK [a0, a1, a2, a3, a4, a5] (1) k t = k a1 := atK_of rfl
theorem ak6_2 {a0 a1 a2 a3 a4 a5 : D} {k : D → Prop} {t : Tag k} : atK [a0, a1, a2, a3, a4, a5] (2) k t = k a2 := atK_of rfl
theorem ak6_3 {a0 a1 a2 a3 a4 a5 : D} {k : D → Prop} {t : Tag k} : atK [a0, a1, a2, a3, a4, a5] (3) k t = k a3 := atK_of rfl
theorem ak6_4 {a0 a1 a2 a3 a4 a5 : D} {k : D → Prop} {t : Tag k} : atK [a0, a1, a2, a3, a4, a5] (4) k t = k a4 := atK_of rfl
theorem ak6_5 {a0 a1 a2 a3 a4 a5 : D} {k : D → Prop} {t : Tag k} : atK [a0, a1, a2, a3, a4, a5] (5) k t = k a5 := atK_of rfl
theorem bk0 {a : Bool} {H : List Bool → D} {P : D → Prop} : gBls H [.lst []] P = P (H []) := by simp [gBls, blsOf]
theorem bk1 {a0 : Bool} {H : List Bool → D} {P : D → Prop} : gBls H [.lst [.bl a0]] P = P (H [a0]) := by simp [gBls, blsOf]
theorem bk2 {a0 a1 : Bool} {H : List Bool → D} {P : D → Prop} : gBls H [.lst [.bl a0, .bl a1]] P = P (H [a0, a1]) := by simp [gBls, blsOf]
theorem bk3 {a0 a1 a2 : Bool} {H : List Bool → D} {P : D → Prop} : gBls H [.lst [.bl a0, .bl a1, .bl a2]] P = P (H [a0, a1, a2]) := by simp [gBls, blsOf]
theorem bk4 {a0 a1 a2 a3 : Bool} {H : List Bool → D} {P : D → Prop} : gBls H [.lst [.bl a0, .bl a1, .bl a2, .bl a3]] P = P (H [a0, a1, a2, a3]) := by simp [gBls, blsOf]
theorem bk5 {a0 a1 a2 a3 a4 : Bool} {H : List Bool → D} {P : D → Prop} : gBls H [.lst [.bl a0, .bl a1, .bl a2, .bl a3, .bl a4]] P = P (H [a0, a1, a2, a3, a4]) := by simp [gBls, blsOf]
theorem bk6 {a0 a1 a2 a3 a4 a5 : Bool} {H : List Bool → D} {P : D → Prop} : gBls H [.lst [.bl a0, .bl a1, .bl a2, .bl a3, .bl a4, .bl a5]] P = P (H [a0, a1, a2, a3, a4, a5]) := by simp [gBls, blsOf]
theorem bk7 {a0 a1 a2 a3 a4 a5 a6 : Bool} {H : List Bool → D} {P : D → Prop} : gBls H [.lst [.bl a0, .bl a1, .bl a2, .bl a3, .bl a4, .bl a5, .bl a6]] P = P (H [a0, a1, a2, a3, a4, a5, a6]) := by simp [gBls, blsOf]
theorem bk8 {a0 a1 a2 a3 a4 a5 a6 a7 : Bool} {H : List Bool → D} {P : D → Prop} : gBls H [.lst [.bl a0, .bl a1, .bl a2, .bl a3, .bl a4, .bl a5, .bl a6, .bl a7]] P = P (H [a0, a1, a2, a3, a4, a5, a6, a7]) := by simp [gBls, blsOf]
end DL

namespace DL
open PySem PySem.Spec PyProof.Rows L2
/-! ### a caught exception is tracked -/
section
variable {X : Cx} {pins : List (Addr × Obj)} {σ : L2.St} {H : Hp} {s : Shared} {a : Addr}
theorem inv_track {cls : Value} {d : Option Addr} {oe : Obj} {vs : Array Value} (I : Inv X pins σ H s) (n0 : X.s_0.heap.get? a = Option.none) (hn : H a = Option.none) (ha : s.heap.get? a = some oe) (hz : Zc cls d oe) (hd : oe.data = .fields vs)
    (hp : ∀ p ∈ X.pn ++ pins, p.1 ≠ a) : Inv X pins σ (upd H a (ExK cls d a)) s := by
  have nL : X.env.locals ≠ a := fun z => by
    obtain ⟨m, ⟨o, es, ep, ho, hdo, _⟩, _⟩ := I.loc
    rw [z, ha] at ho; cases ho
    rw [hd] at hdo; cases hdo
  have nC : ∀ x c, X.env.cells.lookup x = some c → c ≠ a := fun x c e z => by
    obtain ⟨v, o, ho, hdo⟩ := I.cell x c e
    rw [z, ha] at ho; cases ho
    rw [hd] at hdo; cases hdo
  have B := I.base
  refine ⟨I.ok, I.os, I.bare, ⟨B.keep, B.slot, fun b u q n hx => ?_, B.there, fun b xs q => ?_, fun b o u q => ?_, fun b ps q => ?_⟩, I.loc, I.cell, (upd_ne nL).trans I.free, fun x c e => (upd_ne (nC x c e)).trans (I.freeC x c e), fun p h => ?_, I.hok.laidN (fun _ _ q => q) hn (exK_ok ha hz hd), I.len⟩
  · rw [upd_ne fun z => by rw [z, n0] at q; cases q]; exact B.free b u q n hx
  · have r := B.tups b xs q
    rw [upd_ne (ne_of_none r hn)]; exact r
  · have r := B.frzs b o u q
    rw [upd_ne (ne_of_none r hn)]; exact r
  · obtain ⟨m, r⟩ := B.tbls b ps q
    exact ⟨m, by rw [upd_ne (ne_of_none r hn)]; exact r⟩
  · obtain ⟨e, n, ne, nf, dd⟩ := I.pin p h
    exact ⟨e, (upd_ne (hp p h)).trans n, ne, nf, dd⟩
theorem suite0 (I : Inv X pins σ H s) (a : Addr) : Inv (X.suite a (X.pn ++ pins)) [] σ H s :=
  ⟨I.ok.suite _ _, I.os, I.bare, I.base, I.loc, I.cell, I.free, I.freeC, fun p hp => I.pin p (by rw [List.append_nil] at hp; exact hp), I.hok, I.len⟩
theorem unsuite0 {pn' : List (Addr × Obj)} (I : Inv (X.suite a (X.pn ++ pins)) pn' σ H s) (ok : X.Ok) : Inv X pins σ H s :=
  ⟨ok, I.os, I.bare, I.base, I.loc, I.cell, I.free, I.freeC, fun p hp => I.pin p (List.mem_append_left _ hp), I.hok, I.len⟩
end
/-- an exception that has landed in X: nothing of it is tracked as yet -/
def Lnd (X : Cx) (pins : List (Addr × Obj)) (a : Addr) (cls : Value) (d : Option Addr) (σ : L2.St) (H : Hp) (s : Shared) : Prop :=
  ∃ (B : Heap) (sI : Shared), Inv X pins σ H sI ∧ (∀ b o, sI.heap.get? b = some o → b ∉ frs X.stack → B.get? b = some o) ∧ sI.heap.UpToSlots s.heap ∧
    HandSPX.FlyingZ B (X.env :: X.outer) a (Zc cls d) s.heap ∧ H a = Option.none ∧ s.os = sI.os ∧ AllBare s.gens
/-- the clauses of a try -/
structure PH (X : Cx) (hs : List ExceptHandler) (t : Ends → WX) : Prop where
  run : ∀ (pins : List (Addr × Obj)) (D : Ends) (a : Addr) (cls : Value) (d : Option Addr) (σ : L2.St) (H : Hp) (s : Shared), Lnd X pins a cls d σ H s → t D cls d σ H →
    wpAny (model X.prog X.w) X.A (handleBy (.ref a) X.env hs) (SP X pins D) X.xe s
def unset (D : Ends) (i : Nat) : Ends := { nx := fun σ H => D.nx (σ.set i Option.none) H, rt := D.rt, bk := fun σ H => D.bk (σ.set i Option.none) H, ct := fun σ H => D.ct (σ.set i Option.none) H }
def hAs (K : PySem.W.Frag) (c : Value) (i : Nat) (ts : TS) (rest : Ends → WX) : Ends → WX := fun D cls d σ H =>
  ∃ b, PySem.W.exmOne K cls c = some b ∧ (b = true → ∀ a, H a = Option.none → ts (unset D i) (σ.set i (some (.ref a))) (upd H a (ExK cls d a))) ∧ (b = false → rest D cls d σ H)
def hOnly (K : PySem.W.Frag) (c : Value) (ts : TS) (rest : Ends → WX) : Ends → WX := fun D cls d σ H =>
  ∃ b, PySem.W.exmOne K cls c = some b ∧ (b = true → ts D σ H) ∧ (b = false → rest D cls d σ H)
section
variable {X : Cx} {x n : Str} {c : Value} {i : Nat} {body suite : List Stmt} {b₀ : Stmt} {np pos pos' : Pos} {ts : TS} {Wout : WX} {hs : List ExceptHandler} {rest : Ends → WX}
theorem ph_nil (hst : X.stack = X.env :: X.outer) (hf : X.env.frame = some X.env.locals) (tk : Takes X Wout) : PH X [] (fun _ => Wout) := by
  refine ⟨fun pins D a cls d σ H s ⟨B, sI, J, nb, up, fl, na, os, ag⟩ w => wpAny_handleBy_nil ?_⟩
  have fl' := fl
  obtain ⟨_, _, _, oe, vs, T, oT, ts', he, hz, hd, h1, hr⟩ := fl'
  have fin : wpAny (model X.prog X.w) X.A (setFlight (.ref a) X.env.frame) (fun _ s4 => wpAny (model X.prog X.w) X.A (throw (.ref a) : Sem Flow) (SP X pins D) X.xe s4) X.xe s := by
    rw [hf]
    refine HandSPX.setFlight_upZ fl fun h4 hh4 up4 => wpAny_throw (tk _ _ ?_)
    exact ⟨a, B, sI, pins, σ, H, cls, d, rfl, J, nb, up.trans up4, .inr (.inr (by rw [hst]; exact hh4)), na, os, ag, w⟩
  unfold PySem.passOn
  refine wpAny_bind (wpAny_field he hd h1 ?_)
  rw [if_neg (fun z => by simp at z : ¬ ((Value.ref T == Value.none) = true))]
  first
    | exact wpAny_bind (wpAny_pure (wpAny_bind fin))
    | exact wpAny_bind fin
/-- what is known where a clause's suite begins -/
theorem lnd_frames {pins : List (Addr × Obj)} {a : Addr} {cls : Value} {d : Option Addr} {σ : L2.St} {H : Hp} {sI : Shared} {h : Heap} {B : Heap} (hst : X.stack = X.env :: X.outer) (hx : X.ex = []) (J : Inv X pins σ H sI) (nb : ∀ b o, sI.heap.get? b = some o → b ∉ frs X.stack → B.get? b = some o)
    (fl : HandSPX.FlyingZ B (X.env :: X.outer) a (Zc cls d) h) : X.s_0.heap.get? a = Option.none ∧ ∀ p ∈ X.pn ++ pins, p.1 ≠ a := by
  obtain ⟨_, nB, ff, oe, vs, T, oT, ts', he, hz, hd, _⟩ := fl
  have nfr : a ∉ frs X.stack := fun hm => by
    rw [hst] at hm
    obtain ⟨_, o', e', hnf⟩ := ff.mem hm
    rw [he] at e'; cases e'
    exact hnf _ hd
  have nI : sI.heap.get? a = Option.none := by
    cases e : sI.heap.get? a with
    | none => rfl
    | some o => rw [nb a o e nfr] at nB; cases nB
  refine ⟨?_, fun p hp z => ?_⟩
  · cases e : X.s_0.heap.get? a with
    | none => rfl
    | some o =>
      obtain ⟨o', q⟩ := J.base.there a o e (by rw [hx]; exact fun z => nomatch z)
      rw [nI] at q; cases q
  · have q := (J.pin p hp).1
    rw [z, nI] at q; cases q
theorem lnd_test {pins : List (Addr × Obj)} {a : Addr} {cls : Value} {σ : L2.St} {H : Hp} {s : Shared} (hc : Names X x c) (J : Inv X pins σ H s) {Q : Value → Shared → Prop} {E : Value → Shared → Prop} (q : Q c s) : wpAny (model X.prog X.w) (X.A.mark (some (.ref a))) (eval (.Name x np) X.env) Q E s := by
  have S := suite0 J a
  obtain ⟨hg, hdbg, hm | ⟨hm, hv, hnn⟩⟩ := hc
  · exact ld_glob (X := X.suite a (X.pn ++ pins)) S hg hm q hdbg
  · exact ld_blt (X := X.suite a (X.pn ++ pins)) S hg hm hv q hnn hdbg
theorem ph_as (hst : X.stack = X.env :: X.outer) (hx : X.ex = []) (hN : X.N.Nodup) (hi : X.N[i]? = some n) (hln : X.env.kindOf n = some .local) (hc : Names X x c)
    (hsu : ∀ (a : Addr) (pn : List (Addr × Obj)), PSs (X.suite a pn) (b₀ :: suite) ts) (hr : PH X hs rest) : PH X (.ExceptHandler (some (.Name x np)) (some n) (b₀ :: suite) pos' :: hs) (hAs X.K c i ts rest) := by
  refine ⟨fun pins D a cls d σ H s L w => ?_⟩
  have L' := L
  obtain ⟨B, sI, J, nb, up, fl, na, os, ag⟩ := L'
  obtain ⟨b, hb1, hyes, hno⟩ := w
  have ok := J.ok
  obtain ⟨n0, npin⟩ := lnd_frames hst hx J nb fl
  have Js : Inv X pins σ H s := J.landed (s' := s) nb fl.1 up os ag
  obtain ⟨o3, v3, he3, hz3, hd3⟩ := fl.there
  refine wpAny_handleBy_cons (codeAny_handlers_test ?_) (by intro q; cases q)
  have LT : PySem.W.Looks (model X.prog X.w) s.heap (typeOf (.ref a)) cls := fun A Q E s k q => wpAny_typeOf_ref (k _ _ he3) (by rw [hz3.1]; exact q)
  refine lnd_test (cls := cls) hc Js ((PySem.W.exm_one (M := model X.prog X.w) Js.kIn LT hb1).here ?_)
  cases b with
  | false =>
    show wpAny _ X.A (handleBy (.ref a) X.env hs) _ _ _
    exact hr.run pins D a cls d σ H s L (hno rfl)
  | true =>
    refine codeAny_handlers_suite_as (HandSPX.lands_againZ fl fun h4 fl4 up4 => ?_)
    have J4 : Inv X pins σ H { s with heap := h4 } := J.landed nb fl4.1 (up.trans up4) os ag
    obtain ⟨o4, v4, he4, hz4, hd4⟩ := fl4.there
    have S4 := suite0 (inv_track J4 n0 na he4 hz4 hd4 npin) a
    refine store_ok (X := X.suite a (X.pn ++ pins)) (v := .ref a) S4 hN hi (.inl hln) rfl (fun s5 S5 => ?_) (.inr hln)
    refine wpAny_mono ((hsu a (X.pn ++ pins)).run [] s5 _ _ _ S5 (hyes rfl a na)) (fun f s6 hsp => ?_) (fun _ _ z => False.elim z)
    have fin : ∀ {σ6 : L2.St} {H6 : Hp} {Q : Shared → Prop}, Inv (X.suite a (X.pn ++ pins)) [] σ6 H6 s6 → (∀ s7, Inv X pins (σ6.set i Option.none) H6 s7 → Q s7) →
        wpAny (model X.prog X.w) X.A (do bindName X.env n .none; unbindBehindTheSuite X.env n pos') (fun _ s7 => Q s7) X.xe s6 := fun S6 hq => gone_ok (unsuite0 S6 ok) hN hi hln hq
    cases f with
    | next => obtain ⟨σ6, H6, S6, q6⟩ := hsp; exact fin S6 fun s7 J7 => ⟨_, _, J7, q6⟩
    | brk => obtain ⟨σ6, H6, S6, q6⟩ := hsp; exact fin S6 fun s7 J7 => ⟨_, _, J7, q6⟩
    | cont => obtain ⟨σ6, H6, S6, q6⟩ := hsp; exact fin S6 fun s7 J7 => ⟨_, _, J7, q6⟩
    | ret u => obtain ⟨v6, σ6, H6, S6, r6, q6⟩ := hsp; exact fin S6 fun s7 J7 => ⟨_, _, _, J7, r6, q6⟩
theorem ph_only (hst : X.stack = X.env :: X.outer) (hc : Names X x c) (hsu : ∀ (a : Addr) (pn : List (Addr × Obj)), PSs (X.suite a pn) (b₀ :: suite) ts) (hr : PH X hs rest) :
    PH X (.ExceptHandler (some (.Name x np)) Option.none (b₀ :: suite) pos' :: hs) (hOnly X.K c ts rest) := by
  refine ⟨fun pins D a cls d σ H s L w => ?_⟩
  have L' := L
  obtain ⟨B, sI, J, nb, up, fl, na, os, ag⟩ := L'
  obtain ⟨b, hb1, hyes, hno⟩ := w
  have ok := J.ok
  have Js : Inv X pins σ H s := J.landed (s' := s) nb fl.1 up os ag
  obtain ⟨o3, v3, he3, hz3, hd3⟩ := fl.there
  refine wpAny_handleBy_cons (codeAny_handlers_test ?_) (by intro q; cases q)
  have LT : PySem.W.Looks (model X.prog X.w) s.heap (typeOf (.ref a)) cls := fun A Q E s k q => wpAny_typeOf_ref (k _ _ he3) (by rw [hz3.1]; exact q)
  refine lnd_test (cls := cls) hc Js ((PySem.W.exm_one (M := model X.prog X.w) Js.kIn LT hb1).here ?_)
  cases b with
  | false =>
    show wpAny _ X.A (handleBy (.ref a) X.env hs) _ _ _
    exact hr.run pins D a cls d σ H s L (hno rfl)
  | true =>
    refine codeAny_handlers_suite (HandSPX.lands_againZ fl fun h4 fl4 up4 => ?_)
    have J4 : Inv X pins σ H { s with heap := h4 } := J.landed nb fl4.1 (up.trans up4) os ag
    refine wpAny_mono ((hsu a (X.pn ++ pins)).run [] _ _ _ _ (suite0 J4 a) (hyes rfl)) (fun f s6 hsp => ?_) (fun _ _ z => False.elim z)
    cases f with
    | next => obtain ⟨σ6, H6, S6, q6⟩ := hsp; exact ⟨_, _, unsuite0 S6 ok, q6⟩
    | brk => obtain ⟨σ6, H6, S6, q6⟩ := hsp; exact ⟨_, _, unsuite0 S6 ok, q6⟩
    | cont => obtain ⟨σ6, H6, S6, q6⟩ := hsp; exact ⟨_, _, unsuite0 S6 ok, q6⟩
    | ret u => obtain ⟨v6, σ6, H6, S6, r6, q6⟩ := hsp; exact ⟨_, _, _, unsuite0 S6 ok, r6, q6⟩
/-- try: body, clauses -/
theorem ps_tryH {tb : WX → TS} {th : Ends → WX} {h₀ : ExceptHandler} (hst : X.stack = X.env :: X.outer) (hf : X.env.frame = some X.env.locals)
    (hb : ∀ (W : WX) (pn : List (Addr × Obj)) (xe : Value → Shared → Prop), Takes (X.tr pn xe) W → PassesOwn (model X.prog X.w) X.A X.env xe → PSs (X.tr pn xe) body (tb W)) (hh : PH X (h₀ :: hs) th) :
    PS X (.Try body (h₀ :: hs) [] [] pos) (fun D σ H => tb (th D) D σ H) := by
  refine ⟨fun pins s σ H D I h => wpAny_Try_except ?_⟩
  have ok := I.ok
  have hfr : X.A.frames = some (X.env :: X.outer) := by rw [ok.frames, hst]
  let xe : Value → Shared → Prop := fun e s₁ => wpAny (model X.prog X.w) X.A (noteFrame e X.env) (fun _ s₂ => wpAny (model X.prog X.w) X.A (setFlight e Option.none) (fun _ s₃ => wpAny (model X.prog X.w) X.A (handleBy e X.env (h₀ :: hs)) (SP X pins D) X.xe s₃) X.xe s₂) X.xe s₁
  have tk : Takes (X.tr (X.pn ++ pins) xe) (th D) := fun u s' xx => by
    obtain ⟨a, B, sI, pins', σ', H', cls, d, rfl, J', nb, up, sky, na, os, ag, w⟩ := xx
    have J : Inv X pins σ' H' sI := J'.ofTry ok
    have sky' : Sky B (X.env :: X.outer) a (Zc cls d) X.env.locals s'.heap := by rw [← hst]; exact sky
    show wpAny (model X.prog X.w) X.A (noteFrame (.ref a) X.env) _ _ _
    refine Sky.land Zc.steady hfr hf sky' fun h3 fl3 up3 => ?_
    exact hh.run pins D a cls d σ' H' { s' with heap := h3 } ⟨B, sI, J, nb, up.trans up3, fl3, na, os, ag⟩ w
  refine wpAny_mono ((hb (th D) (X.pn ++ pins) xe tk PassesOwn.looking).run [] s σ H D (I.toTry _) h) (fun f s1 hsp => ?_) (fun e s1 he => he)
  cases f with
  | next => obtain ⟨σ', H', J', q⟩ := hsp; exact wpAny_execs_nil ⟨σ', H', J'.ofTry ok, q⟩
  | brk => obtain ⟨σ', H', J', q⟩ := hsp; exact ⟨σ', H', J'.ofTry ok, q⟩
  | cont => obtain ⟨σ', H', J', q⟩ := hsp; exact ⟨σ', H', J'.ofTry ok, q⟩
  | ret u => obtain ⟨v, σ', H', J', r, q⟩ := hsp; exact ⟨v, σ', H', J'.ofTry ok, r, q⟩
end
end DL

namespace DL
open PySem PySem.Spec PyProof.Rows L2
/-! ### classes of refusals, by their names -/
/-- all stand under LandError and ValueError, none under another -/
def subE (a b : Str) : Bool := a == b || b == "LandError" || b == "ValueError"
def crV (K : PySem.W.Frag) (c : Str) : V := if c = "ValueError" then .ty "ValueError" else .ref (He.ga K c)
def crU (K : PySem.W.Frag) (c : Str) : Value := if c = "ValueError" then .type "ValueError" else .ref (He.ga K c)
theorem cr_cls (K : PySem.W.Frag) (c : Str) : ClsV (crV K c) (crU K c) := by
  unfold crV crU
  split
  · exact .ty _
  · exact .own _
def ecB (K : PySem.W.Frag) (c : Str) : Bool := (PySem.W.clsIn K (He.ga K c)).isSome && (He.eqO (PySem.W.findIn K (.ref (He.ga K c)) "__getattribute__") (some (some (.builtin "BaseException.__getattribute__"))) && (He.eqO (PySem.W.findIn K (.ref (He.ga K c)) "__getattr__") (some Option.none) &&
  (decide (PySem.W.subIn K (.ref (He.ga K c)) (.type "BaseException") = some true) && (He.eqO (PySem.W.findIn K (.ref (He.ga K c)) "__class__") (some (some (.builtin "object.__class__"))) && (decide (PySem.W.mroIn K (He.ga K c) (.type "object") = some true) &&
  (PySem.W.hasDictIn K (He.ga K c) && He.eqO (PySem.W.findIn K (.ref (He.ga K c)) "at") (some Option.none)))))))
def tyNames : List String := ["NoneType", "bool", "int", "str", "list", "tuple", "dict"]
def xaB (K : PySem.W.Frag) (cl : List Str) : Bool := (cl.all fun a => ecB K a) && ((cl.all fun a => (("ValueError" : Str) :: cl).all fun b => decide (PySem.W.kitOne K (.ref (He.ga K a)) (crU K b) = some (subE a b))) &&
  ((tyNames.all fun T => (("ValueError" : Str) :: cl).all fun b => decide (PySem.W.kitOne K (.type T) (crU K b) = some false)) &&
  ((cl.all fun a => cl.all fun b => decide (PySem.W.exmOne K (.ref (He.ga K a)) (.ref (He.ga K b)) = some (subE a b))) &&
  (He.eqO (PySem.W.specialIn K (.builtin "object.__class__") "__get__") (some (some (.builtin "getset_descriptor.__get__"))) && decide (PySem.W.takesIn K (.builtin "object.__class__") = some true)))))
structure EC (K : PySem.W.Frag) (C : Addr) : Prop where
  cl : (PySem.W.clsIn K C).isSome = true
  ga : PySem.W.findIn K (.ref C) "__getattribute__" = some (some (.builtin "BaseException.__getattribute__"))
  gg : PySem.W.findIn K (.ref C) "__getattr__" = some Option.none
  sb : PySem.W.subIn K (.ref C) (.type "BaseException") = some true
  kc : PySem.W.findIn K (.ref C) "__class__" = some (some (.builtin "object.__class__"))
  mo : PySem.W.mroIn K C (.type "object") = some true
  hd : PySem.W.hasDictIn K C = true
  na : PySem.W.findIn K (.ref C) "at" = some Option.none
structure XA (K : PySem.W.Frag) (cl : List Str) : Prop where
  ec : ∀ c ∈ cl, EC K (He.ga K c)
  kit : ∀ a ∈ cl, ∀ b ∈ ("ValueError" : Str) :: cl, PySem.W.kitOne K (.ref (He.ga K a)) (crU K b) = some (subE a b)
  kitT : ∀ T ∈ tyNames, ∀ b ∈ ("ValueError" : Str) :: cl, PySem.W.kitOne K (.type T) (crU K b) = some false
  exm : ∀ a ∈ cl, ∀ b ∈ cl, PySem.W.exmOne K (.ref (He.ga K a)) (.ref (He.ga K b)) = some (subE a b)
  sp : PySem.W.specialIn K (.builtin "object.__class__") "__get__" = some (some (.builtin "getset_descriptor.__get__"))
  tk : PySem.W.takesIn K (.builtin "object.__class__") = some true
theorem ecB_ok {K : PySem.W.Frag} {c : Str} (h : ecB K c = true) : EC K (He.ga K c) := by
  obtain ⟨h1, h⟩ := He.ba h
  obtain ⟨h2, h⟩ := He.ba h
  obtain ⟨h3, h⟩ := He.ba h
  obtain ⟨h4, h⟩ := He.ba h
  obtain ⟨h5, h⟩ := He.ba h
  obtain ⟨h6, h⟩ := He.ba h
  obtain ⟨h7, h8⟩ := He.ba h
  exact ⟨h1, He.eqO_ok h2, He.eqO_ok h3, of_decide_eq_true h4, He.eqO_ok h5, of_decide_eq_true h6, h7, He.eqO_ok h8⟩
theorem xaB_ok {K : PySem.W.Frag} {cl : List Str} (h : xaB K cl = true) : XA K cl := by
  obtain ⟨h1, h⟩ := He.ba h
  obtain ⟨h2, h⟩ := He.ba h
  obtain ⟨h3, h⟩ := He.ba h
  obtain ⟨h4, h⟩ := He.ba h
  obtain ⟨h5, h6⟩ := He.ba h
  exact ⟨fun c hc => ecB_ok (List.all_eq_true.mp h1 c hc), fun a ha b hb => of_decide_eq_true (List.all_eq_true.mp (List.all_eq_true.mp h2 a ha) b hb), fun a ha b hb => of_decide_eq_true (List.all_eq_true.mp (List.all_eq_true.mp h3 a ha) b hb),
    fun a ha b hb => of_decide_eq_true (List.all_eq_true.mp (List.all_eq_true.mp h4 a ha) b hb), He.eqO_ok h5, of_decide_eq_true h6⟩
/-- what a value's class is -/
inductive TyE (K : PySem.W.Frag) (H : Hp) : V → Value → Prop where
  | plain {x : V} {t : Value} (h : TyX K H x t) : TyE K H x t
  | exc {a C : Addr} {d : Option Addr} (e : H a = some (ExK (.ref C) d a)) (hd : ∀ p, d = some p → ∃ fs, H p = some (.xd fs)) (ec : EC K C) (sp : PySem.W.specialIn K (.builtin "object.__class__") "__get__" = some (some (.builtin "getset_descriptor.__get__")))
      (tk : PySem.W.takesIn K (.builtin "object.__class__") = some true) : TyE K H (.ref a) (.ref C)
section
variable {X : Cx} {pins : List (Addr × Obj)} {σ : L2.St} {H : Hp} {s : Shared}
theorem exc_inst {P : Program} {w : World} {h : Heap} {a C : Addr} {d : Option Addr} (hok : HOk P w H h) (e : H a = some (ExK (.ref C) d a)) (hd : ∀ p, d = some p → ∃ fs, H p = some (.xd fs)) : ∃ ox od, PySem.W.InstAt h a ox C od := by
  obtain ⟨⟨oe, vs, he, hz, hdt⟩, _⟩ := (show ObjOk P w H h a (ExK (.ref C) d a) from hok a _ e)
  have nc : PySem.W.notCls oe = true := by unfold PySem.W.notCls; rw [hdt] <;> rfl
  cases d with
  | none => exact ⟨oe, Option.none, he, hz.1, nc, by rw [hz.2]; trivial⟩
  | some p =>
    obtain ⟨fs, hp⟩ := hd p rfl
    obtain ⟨mA, hns, _⟩ := (show ObjOk P w H h p (.xd fs) from hok p _ hp)
    obtain ⟨od, ho, _⟩ := lookIn_ns hns
    exact ⟨oe, some od, he, hz.1, nc, by rw [hz.2]; exact ho⟩
theorem kit_ofE {x : V} {u t : Value} (I : Inv X pins σ H s) (rx : RelV x u) (ty : TyE X.K H x t) : ∃ P : Heap → Prop, PySem.W.KitX X.K u t P ∧ P s.heap ∧ u ≠ .builtin "__main__.__loader__#opaque" := by
  cases ty with
  | plain h => exact kit_of I rx h
  | exc e hd ec sp tk =>
    cases rx
    obtain ⟨ox, od, J⟩ := exc_inst I.hok e hd
    exact ⟨_, PySem.W.kitx_exc ec.cl ec.ga ec.gg ec.sb ec.kc sp tk ec.mo, J, fun z => nomatch z⟩
def rIsE1 (K : PySem.W.Frag) : List V → Hp → VK → Prop := fun xs H Q => ∃ (x c : V) (t u : Value) (b : Bool), xs = [x, c] ∧ ClsV c u ∧ TyE K H x t ∧ PySem.W.kitOne K t u = some b ∧ Q (.bl b) H
def rIsE2 (K : PySem.W.Frag) : List V → Hp → VK → Prop := fun xs H Q => ∃ (x : V) (tp : Addr) (cs : List V) (t : Value) (us : List Value) (b : Bool), xs = [x, .ref tp] ∧ H tp = some (.tup cs) ∧ Paired ClsV cs us ∧ TyE K H x t ∧ PySem.W.kitAny K t us = some b ∧ Q (.bl b) H
theorem call_isE1 : CallR X (.builtin "isinstance") (rIsE1 X.K) := by
  intro pins s σ H xs us Q I r h
  obtain ⟨x, c, t, u, b, rfl, k, ty, e, q⟩ := h
  obtain ⟨u1, u2, rfl, r1, r2⟩ := vals2 r
  have e2 := k.eq r2
  subst e2
  obtain ⟨P, Z, p, hx⟩ := kit_ofE I r1 ty
  exact PySem.W.kia_one Z I.kIn p e hx fun tk => ⟨.bl b, H, I.tok tk, rfl, q⟩
theorem call_isE2 : CallR X (.builtin "isinstance") (rIsE2 X.K) := by
  intro pins s σ H xs us Q I r h
  obtain ⟨x, tp, cs, t, ws, b, rfl, hT, k, ty, e, q⟩ := h
  obtain ⟨u1, u2, rfl, r1, r2⟩ := vals2 r
  have z2 : u2 = Value.ref tp := r2
  subst z2
  obtain ⟨P, Z, p, hx⟩ := kit_ofE I r1 ty
  have ot : ObjOk X.prog X.w H s.heap tp (.tup cs) := I.hok tp _ hT
  obtain ⟨_, its, rv, ⟨oc, od, dt, sl⟩, h1, h2, n, h3⟩ := ot
  have e3 := ClsV.all k rv
  subst e3
  simp only at h2 h3
  subst h2 h3
  exact PySem.W.kia_tup Z I.kIn p h1 e hx fun tk => ⟨.bl b, H, I.tok tk, rfl, q⟩
end
theorem kitAny_of {K : PySem.W.Frag} {t : Value} {f : Str → Bool} : ∀ {cs : List Str}, (∀ c ∈ cs, PySem.W.kitOne K t (crU K c) = some (f c)) → PySem.W.kitAny K t (cs.map (crU K)) = some (cs.any f)
  | [], _ => rfl
  | c :: cs, h => by
    rw [List.map_cons, List.any_cons]
    have h1 := h c List.mem_cons_self
    refine kitAny_cons h1 (fun e => ?_) (fun e => ?_)
    · rw [e, Bool.false_or]; exact kitAny_of fun c hc => h c (List.mem_cons_of_mem _ hc)
    · rw [e, Bool.true_or]
/-- what isinstance answers -/
def gIsc (cl cs : List Str) : G1 := fun d Q => match d with
  | .exc c _ => c ∈ cl ∧ Q (.bl (cs.any (subE c)))
  | _ => Q (.bl false)
theorem isc_mono {cl cs : List Str} : ∀ d (Q Q' : D → Prop), (∀ z, Q z → Q' z) → gIsc cl cs d Q → gIsc cl cs d Q' := fun d Q Q' k q => by
  unfold gIsc at q ⊢
  split at q
  · exact ⟨q.1, k _ q.2⟩
  · exact k _ q
section
variable {X : Cx} {B : Bd} {wx : WX} {fr : Bool} {pos p p2 : Pos} {a b c e : Expr} {es : List Expr} {f f1 f2 f3 : DE} {k i n : Nat} {fa : DA} {x : Str} {cl : List Str}
theorem Rep.tyE {K : PySem.W.Frag} {W : AS} {H : Hp} {v : V} {d : D} (xa : XA K cl) (h : Rep K W H v d) (hc : ∀ c ds, d = .exc c ds → c ∈ cl) :
    ∃ t, TyE K H v t ∧ ((∃ c ds, d = .exc c ds ∧ t = .ref (He.ga K c)) ∨ (isExc d = false ∧ ∃ T ∈ tyNames, t = .type T)) := by
  cases h with
  | exc0 h n => exact ⟨_, .exc h (fun p e => nomatch e) (xa.ec _ (hc _ _ rfl)) xa.sp xa.tk, .inl ⟨_, _, rfl, rfl⟩⟩
  | exc1 h n h2 n2 r => exact ⟨_, .exc h (fun p e => by cases e; exact ⟨_, h2⟩) (xa.ec _ (hc _ _ rfl)) xa.sp xa.tk, .inl ⟨_, _, rfl, rfl⟩⟩
  | non => exact ⟨_, .plain (Rep.ty (K := K) (W := W) .non rfl), .inr ⟨rfl, _, by simp [tyD, tyNames], rfl⟩⟩
  | bl z => exact ⟨_, .plain (Rep.ty (K := K) (W := W) (.bl z) rfl), .inr ⟨rfl, _, by simp [tyD, tyNames], rfl⟩⟩
  | int z => exact ⟨_, .plain (Rep.ty (K := K) (W := W) (.int z) rfl), .inr ⟨rfl, _, by simp [tyD, tyNames], rfl⟩⟩
  | str z => exact ⟨_, .plain (Rep.ty (K := K) (W := W) (.str z) rfl), .inr ⟨rfl, _, by simp [tyD, tyNames], rfl⟩⟩
  | lst l r => exact ⟨_, .plain (Rep.ty (.lst l r) rfl), .inr ⟨rfl, _, by simp [tyD, tyNames], rfl⟩⟩
  | tup l r => exact ⟨_, .plain (Rep.ty (.tup l r) rfl), .inr ⟨rfl, _, by simp [tyD, tyNames], rfl⟩⟩
  | dct l n r => exact ⟨_, .plain (Rep.ty (.dct l n r) rfl), .inr ⟨rfl, _, by simp [tyD, tyNames], rfl⟩⟩
  | dtt l n r => exact ⟨_, .plain (Rep.ty (.dtt l n r) rfl), .inr ⟨rfl, _, by simp [tyD, tyNames], rfl⟩⟩
/-- the answer of isinstance of a value and some classes -/
theorem isc_kit {K : PySem.W.Frag} {W : AS} {H : Hp} {v : V} {d : D} {cs : List Str} {Q : D → Prop} (xa : XA K cl) (hcs : ∀ c ∈ cs, c ∈ ("ValueError" : Str) :: cl) (h : Rep K W H v d) (g : gIsc cl cs d Q) :
    ∃ t b, TyE K H v t ∧ PySem.W.kitAny K t (cs.map (crU K)) = some b ∧ Q (.bl b) := by
  have hc : ∀ c ds, d = .exc c ds → c ∈ cl := fun c ds e => by subst e; exact g.1
  obtain ⟨t, ty, ⟨c, ds, rfl, rfl⟩ | ⟨ne, T, hT, rfl⟩⟩ := h.tyE xa hc
  · exact ⟨_, _, ty, kitAny_of fun b hb => xa.kit c g.1 b (hcs b hb), g.2⟩
  · refine ⟨_, false, ty, ?_, ?_⟩
    · have := kitAny_of (f := fun _ => false) (cs := cs) fun b hb => xa.kitT T hT b (hcs b hb)
      rw [this]; simp
    · cases d <;> first | exact g | cases ne
theorem pd_isc1 {y : Str} (xa : XA X.K cl) (hy : y ∈ ("ValueError" : Str) :: cl) (hg : Gl X "isinstance") (hm : X.mg "isinstance" = none) (ha : PD X B wx a f1) (hc : PE X c (tC (crV X.K y)))
    (hs1 : starEach [a, c] X.env = (false, eval a X.env) :: starEach [c] X.env := by rfl) (hs2 : starEach [c] X.env = (false, eval c X.env) :: starEach [] X.env := by rfl)
    (hpl : (backTo pos (starEach [c] X.env)).any (·.1) = false := by rfl) : PD X B wx (.Call (.Name "isinstance" p) [a, c] [] pos) (dUn (gIsc cl [y]) f1) := by
  refine ⟨mono_un ha.mono isc_mono, pe_imp (pe_callB call_isE1 hg hm (by decide +kernel) (pa_cons ha.run (pa_cons hc pa_nil hs2) hs1) (by decide) (by decide) hs1 hpl) fun σ H Q ⟨W, δ, er, q⟩ => ?_⟩
  refine ⟨W, δ, er, ha.mono _ _ _ _ _ (fun x δ1 h1 => ?_) (fun _ _ z => z) q⟩
  intro v1 H1 W1 s1 er1 r1
  obtain ⟨t, b, ty, e, h2⟩ := isc_kit xa (by simpa using hy) r1 h1
  refine ⟨v1, _, t, _, b, rfl, cr_cls _ _, ty, ?_, h2 _ _ _ s1 er1 (.bl _)⟩
  simp only [List.map_cons, List.map_nil, PySem.W.kitAny] at e
  split at e <;> simp_all
theorem pd_isc2 {cs : List Str} {kk : Nat} (xa : XA X.K cl) (hy : ∀ c ∈ cs, c ∈ ("ValueError" : Str) :: cl) (hl : cs.length ≤ 1000) (hg : Gl X "isinstance") (hm : X.mg "isinstance" = none) (ha : PD X B wx a f1) (hc : PA X es (fun _ H Q => Q (cs.map (crV X.K)) H))
    (hs1 : starEach [a, .Tuple es kk p2] X.env = (false, eval a X.env) :: starEach [.Tuple es kk p2] X.env := by rfl) (hs2 : starEach [.Tuple es kk p2] X.env = (false, eval (.Tuple es kk p2) X.env) :: starEach [] X.env := by rfl)
    (hpl : (backTo pos (starEach [.Tuple es kk p2] X.env)).any (·.1) = false := by rfl) (ht : ∀ t : TA, PA X es t → PE X (.Tuple es kk p2) (tTup t)) : PD X B wx (.Call (.Name "isinstance" p) [a, .Tuple es kk p2] [] pos) (dUn (gIsc cl cs) f1) := by
  refine ⟨mono_un ha.mono isc_mono, pe_imp (pe_callB call_isE2 hg hm (by decide +kernel) (pa_cons ha.run (pa_cons (ht _ hc) pa_nil hs2) hs1) (by decide) (by decide) hs1 hpl) fun σ H Q ⟨W, δ, er, q⟩ => ?_⟩
  refine ⟨W, δ, er, ha.mono _ _ _ _ _ (fun x δ1 h1 => ?_) (fun _ _ z => z) q⟩
  intro v1 H1 W1 s1 er1 r1
  refine ⟨by rw [List.length_map, sizeLine_eq]; omega, fun tp htp => ?_⟩
  have sm : Same H1 (upd H1 tp (.tup (cs.map (crV X.K)))) := same_new htp
  obtain ⟨t, b, ty, e, h2⟩ := isc_kit xa hy (r1.step (.same sm)) h1
  refine ⟨v1, tp, _, t, _, b, rfl, upd_same, ?_, ty, e, h2 _ _ _ (s1.trans (.same sm)) (er1.grow sm) (.bl _)⟩
  clear h2 e ty
  induction cs with
  | nil => exact .nil
  | cons c cs ih => exact .cons (cr_cls _ _) (by exact (List.rec Paired.nil (fun a l ih => .cons (cr_cls _ _) ih) cs))
/-- e.at -/
def gAt (cl : List Str) : G1 := fun d Q => ∃ c z, d = .exc c [z] ∧ c ∈ cl ∧ Q z
theorem pd_at (xa : XA X.K cl) (ha : PD X B wx a f1) (hb : attributeBase a "at" X.env (eval a X.env) = eval a X.env := by rfl) : PD X B wx (.Attribute a "at" pos) (dUn (gAt cl) f1) := by
  refine ⟨mono_un ha.mono fun d Q Q' k ⟨c, z, e, h, q⟩ => ⟨c, z, e, h, k _ q⟩, ⟨fun pins s σ H Q I h => ?_⟩⟩
  obtain ⟨W, δ, er, q⟩ := h
  refine attr_of hb (thn (ha.run.run pins s σ H (fun v H1 => ∃ c p z, v = .ref c ∧ (∃ C, EC X.K C ∧ H1 c = some (ExK (.ref C) (some p) c)) ∧ H1 p = some (.xd [("at", z)]) ∧ Q z H1) I ⟨W, δ, er, ha.mono _ _ _ _ _ (fun x δ1 h1 v1 H1 W1 s1 er1 r1 => ?_) (fun _ _ z => z) q⟩) fun u s1 hh => ?_)
  · obtain ⟨c, z, rfl, hc, h2⟩ := h1
    cases r1 with
    | exc1 e1 n1 e2 n2 r2 => exact ⟨_, _, _, rfl, ⟨_, xa.ec c hc, e1⟩, e2, h2 _ _ _ s1 er1 r2⟩
  · obtain ⟨v, H1, I1, rv, a', p', z, rfl, ⟨C, ec, e1⟩, e2, q2⟩ := hh
    have ru : u = Value.ref a' := rv
    subst ru
    obtain ⟨⟨oe, vs, he, hz, hdt⟩, _⟩ := (show ObjOk X.prog X.w H1 s1.heap a' (ExK (.ref C) (some p') a') from I1.hok a' _ e1)
    have hxd : ObjOk X.prog X.w H1 s1.heap p' (.xd [("at", z)]) := I1.hok p' _ e2
    obtain ⟨mA, hns, hr⟩ := hxd
    obtain ⟨od, ho, hl⟩ := lookIn_ns hns
    obtain ⟨u, hu, ru⟩ := RelO.some_of (v := z) (o := mA "at") (hr "at")
    have J : PySem.W.InstAt s1.heap a' oe C (some od) := ⟨he, hz.1, by unfold PySem.W.notCls; rw [hdt] <;> rfl, by rw [hz.2]; exact ho⟩
    exact HandSPX.exc_get I1.kIn J ec.ga ec.gg ec.sb (PySem.W.findObj_own ec.hd ec.na rfl (by rw [hl, hu])) (handed_of ru) ⟨z, H1, I1.tok _, ru, q2⟩
/-! ### raise -/
def dRaise (c : Str) : DS := fun E δ => E.xx ⟨c, none⟩ δ
theorem psd_raise {y m : Str} {j : Nat} (hc : X.calm = true) (tk : Takes X wx) (q : PySem.W.excIn X.K (He.ga X.K y) He.veBase "ValueError.__new__" = true ∧ PySem.W.keepIn X.K (.ref (He.ga X.K y)) = true ∧ PySem.W.subIn X.K (.ref (He.ga X.K y)) (.type "BaseException") = some true ∧ PySem.W.typeIn X.K (.ref (He.ga X.K y)) = some (.type "type"))
    (gC : X.mg y = some (.ref (He.ga X.K y))) (hg : Gl X y) (hdb : (y == ("__debug__" : Str)) = false := by decide) : PSD X B wx fr (.Raise (some (.Call (.Name y p) [.Constant (.str m) j p2] [] pos)) none k') (dRaise y) := by
  refine ⟨fun E E' δ le h => le.xx _ _ h, ps_imp (ps_raise hc tk (pmk_own PySem.F.excBase_ValueError q.1 gC q.2.1 (raises_own q.2.2.1 q.2.2.2) hg hdb)) fun D σ H ⟨W, δ, er, h⟩ => ?_⟩
  exact h _ _ _ _ _ .refl er ⟨rfl, rfl⟩
/-! ### try -/
def excOf (x : XD) : D := .exc x.cls (match x.at_ with
  | Option.none => []
  | some d => [d])
def unsetE (E : DEnds) (i : Nat) : DEnds := { nx := fun δ => E.nx (δ.set i .no), rt := E.rt, bk := fun δ => E.bk (δ.set i .no), ct := fun δ => E.ct (δ.set i .no), xx := fun _ _ => False }
def quietE (E : DEnds) : DEnds := { E with xx := fun _ _ => False }
abbrev DH := DEnds → XC
structure PHD (X : Cx) (B : Bd) (wx : WX) (fr : Bool) (hs : List ExceptHandler) (gh : DH) : Prop where
  mono : ∀ E E', DLe E E' → ∀ x δ, gh E x δ → gh E' x δ
  run : PH X hs (fun D cls d σ H => ∃ W δ x, ER X.K B W σ H δ ∧ XR X.K W H cls d x ∧ gh (low X.K B wx fr σ W H D) x δ)
def hNil : DH := fun E x δ => E.xx x δ
def hAsD (cl : List Str) (c : Str) (i : Nat) (g : DS) (rest : DH) : DH := fun E x δ => x.cls ∈ cl ∧ if subE x.cls c = true then g (unsetE E i) (δ.set i (.v (excOf x))) else rest E x δ
def hOnD (cl : List Str) (c : Str) (g : DS) (rest : DH) : DH := fun E x δ => x.cls ∈ cl ∧ if subE x.cls c = true then g (quietE E) δ else rest E x δ
variable {hs : List ExceptHandler} {gh : DH} {g gb : DS} {b₀ : Stmt} {suite body : List Stmt} {np pos' : Pos} {y : Str}
theorem phd_nil (hst : X.stack = X.env :: X.outer) (hf : X.env.frame = some X.env.locals) (tk : Takes X wx) : PHD X B wx fr [] hNil :=
  ⟨fun E E' le x δ h => le.xx _ _ h, ⟨fun pins D a cls d σ H s L w => (ph_nil hst hf (Takes.imp tk fun c d σ H (⟨W, δ, x, er, xr, h⟩ : ∃ W δ x, ER X.K B W σ H δ ∧ XR X.K W H c d x ∧ (low X.K B wx fr σ W H D).xx x δ) => h _ _ _ _ _ .refl er xr)).run pins D a cls d σ H s L w⟩⟩
theorem XR.rep {K : PySem.W.Frag} {W : AS} {H : Hp} {cls : Value} {d : Option Addr} {x : XD} {ad : Addr} (t : ∀ a, W a → ∃ o, H a = some o) (h : XR K W H cls d x) (na : H ad = Option.none) : Rep K W (upd H ad (ExK cls d ad)) (.ref ad) (excOf x) := by
  obtain ⟨c, at_⟩ := x
  obtain ⟨e, h⟩ := h
  subst e
  have nw : ¬ W ad := not_trk t na
  cases at_ with
  | none =>
    have h' : d = Option.none := h
    subst h'
    exact .exc0 upd_same nw
  | some z =>
    obtain ⟨p, v, rfl, hp, np, r⟩ := (show ∃ p v, d = some p ∧ H p = some (.xd [("at", v)]) ∧ ¬ W p ∧ Rep K W H v z from h)
    exact .exc1 upd_same nw ((upd_ne (ne_of_none hp na)).trans hp) np (r.step (.same (same_new na)))
theorem phd_as {nm : Str} (hst : X.stack = X.env :: X.outer) (hx : X.ex = []) (hN : X.N.Nodup) (hi : X.N[i]? = some nm) (hln : X.env.kindOf nm = some .local) (xa : XA X.K cl) (hy : y ∈ cl) (gC : X.mg y = some (.ref (He.ga X.K y))) (hg : Gl X y)
    (hsu : ∀ (a : Addr) (pn : List (Addr × Obj)), PSsD (X.suite a pn) B wx0 fr (b₀ :: suite) g) (hr : PHD X B wx fr hs gh) (hdb : (y == ("__debug__" : Str)) = false := by decide) :
    PHD X B wx fr (.ExceptHandler (some (.Name y np)) (some nm) (b₀ :: suite) pos' :: hs) (hAsD cl y i g gh) := by
  have ms := (hsu 0 []).mono
  refine ⟨fun E E' le x δ h => ⟨h.1, ?_⟩, ⟨fun pins D a cls d σ H s L w => (ph_as (ts := liftS X.K B wx0 fr g) hst hx hN hi hln ⟨hg, hdb, .inl gC⟩ (fun a pn => (hsu a pn).run) hr.run).run pins D a cls d σ H s L ?_⟩⟩
  · have h2 := h.2
    split at h2
    · rename_i e
      rw [if_pos e]
      exact ms (unsetE E i) (unsetE E' i) _ ⟨fun _ h => le.nx _ h, le.rt, fun _ h => le.bk _ h, fun _ h => le.ct _ h, fun _ _ h => h⟩ h2
    · rename_i e
      rw [if_neg e]
      exact hr.mono _ _ le _ _ h2
  · obtain ⟨W, δ, x, er, xr, hc, w⟩ := w
    refine ⟨subE x.cls y, by rw [xr.1]; exact xa.exm _ hc _ hy, fun e a na => ?_, fun e => ?_⟩
    · rw [if_pos e] at w
      have er1 := er.grow (same_new (o := ExK cls d a) na)
      refine ⟨W, δ.set i (.v (excOf x)), er1.set (xr.rep er.trk na), ms (unsetE (low X.K B wx fr σ W H D) i) _ _ ⟨fun δ' h σ' H' W' s' er' => ?_, fun z δ' h v σ' H' W' s' er' r' => ?_, fun δ' h σ' H' W' s' er' => ?_, fun δ' h σ' H' W' s' er' => ?_, fun _ _ h => False.elim h⟩ w⟩
      · exact h _ _ _ ((Step.same (same_new na)).trans s') (er'.lose i)
      · exact h _ _ _ _ ((Step.same (same_new na)).trans s') er' r'
      · exact h _ _ _ ((Step.same (same_new na)).trans s') (er'.lose i)
      · exact h _ _ _ ((Step.same (same_new na)).trans s') (er'.lose i)
    · rw [if_neg (by rw [e]; decide)] at w
      exact ⟨W, δ, x, er, xr, w⟩
theorem phd_on (hst : X.stack = X.env :: X.outer) (xa : XA X.K cl) (hy : y ∈ cl) (gC : X.mg y = some (.ref (He.ga X.K y))) (hg : Gl X y)
    (hsu : ∀ (a : Addr) (pn : List (Addr × Obj)), PSsD (X.suite a pn) B wx0 fr (b₀ :: suite) g) (hr : PHD X B wx fr hs gh) (hdb : (y == ("__debug__" : Str)) = false := by decide) :
    PHD X B wx fr (.ExceptHandler (some (.Name y np)) none (b₀ :: suite) pos' :: hs) (hOnD cl y g gh) := by
  have ms := (hsu 0 []).mono
  refine ⟨fun E E' le x δ h => ⟨h.1, ?_⟩, ⟨fun pins D a cls d σ H s L w => (ph_only (ts := liftS X.K B wx0 fr g) hst ⟨hg, hdb, .inl gC⟩ (fun a pn => (hsu a pn).run) hr.run).run pins D a cls d σ H s L ?_⟩⟩
  · have h2 := h.2
    split at h2
    · rename_i e
      rw [if_pos e]
      exact ms (quietE E) (quietE E') _ ⟨fun _ h => le.nx _ h, le.rt, fun _ h => le.bk _ h, fun _ h => le.ct _ h, fun _ _ h => h⟩ h2
    · rename_i e
      rw [if_neg e]
      exact hr.mono _ _ le _ _ h2
  · obtain ⟨W, δ, x, er, xr, hc, w⟩ := w
    refine ⟨subE x.cls y, by rw [xr.1]; exact xa.exm _ hc _ hy, fun e => ?_, fun e => ?_⟩
    · rw [if_pos e] at w
      exact ⟨W, δ, er, ms (quietE (low X.K B wx fr σ W H D)) _ _ ⟨fun δ' h => h, fun z δ' h => h, fun δ' h => h, fun δ' h => h, fun _ _ h => False.elim h⟩ w⟩
    · rw [if_neg (by rw [e]; decide)] at w
      exact ⟨W, δ, x, er, xr, w⟩
def dTry (gb : DS) (gh : DH) : DS := fun E δ => gb { E with xx := gh E } δ
theorem psd_try {h₀ : ExceptHandler} (hst : X.stack = X.env :: X.outer) (hf : X.env.frame = some X.env.locals)
    (hb : ∀ (W : WX) (pn : List (Addr × Obj)) (xe : Value → Shared → Prop), Takes (X.tr pn xe) W → PassesOwn (model X.prog X.w) X.A X.env xe → PSsD (X.tr pn xe) B W fr body gb) (hh : PHD X B wx fr (h₀ :: hs) gh) :
    PSD X B wx fr (.Try body (h₀ :: hs) [] [] pos) (dTry gb gh) := by
  have mb := (hb (fun _ _ _ _ => False) [] (fun _ _ => False) takes0 PassesOwn.never).mono
  refine ⟨fun E E' δ le h => mb { E with xx := gh E } { E' with xx := gh E' } _ ⟨le.nx, le.rt, le.bk, le.ct, fun x δ' h => hh.mono _ _ le _ _ h⟩ h, ps_imp (ps_tryH (tb := fun W => liftS X.K B W fr gb) hst hf (fun W pn xe tk hp => (hb W pn xe tk hp).run) hh.run) fun D σ H ⟨W, δ, er, q⟩ => ?_⟩
  refine ⟨W, δ, er, mb { low X.K B wx fr σ W H D with xx := gh (low X.K B wx fr σ W H D) } _ _ ⟨fun δ' h => h, fun z δ' h => h, fun δ' h => h, fun δ' h => h, fun x δ' h cls dd σ' H' W' s' er' xr => ?_⟩ q⟩
  exact ⟨W', δ', x, er', xr, hh.mono _ _ (low.le s') _ _ h⟩
end
end DL
namespace DL
open PySem PySem.Spec PyProof.Rows L2
section
variable {X : Cx} {p : Pos} {y : Str}
theorem pe_cls (hne : y ≠ "ValueError") (hg : Gl X y) (hm : X.mg y = some (.ref (He.ga X.K y))) (hd : (y == ("__debug__" : Str)) = false := by decide) : PE X (.Name y p) (tC (crV X.K y)) :=
  pe_glob hg hm (by unfold crV; rw [if_neg hne]; rfl) hd
theorem pe_clsV (hg : Gl X "ValueError") (hm : X.mg "ValueError" = none) : PE X (.Name "ValueError" p) (tC (crV X.K "ValueError")) :=
  pe_bltn hg hm PyProof.Rows.Boot.«ValueError» (by unfold crV; rw [if_pos rfl]; rfl)
theorem pa_cls0 : PA X [] (fun _ H Q => Q (([] : List Str).map (crV X.K)) H) := pa_nil
theorem pa_clsC {e : Expr} {es : List Expr} {cs : List Str} (h : PE X e (tC (crV X.K y))) (hr : PA X es (fun _ H Q => Q (cs.map (crV X.K)) H)) (he : starEach (e :: es) X.env = (false, eval e X.env) :: starEach es X.env := by rfl) :
    PA X (e :: es) (fun _ H Q => Q ((y :: cs).map (crV X.K)) H) := pa_cons h hr he
end
/-- the head's facts, with one more look -/
def hookX (n : Nat) (xb : PySem.W.Frag → Bool) (fa : List He.Fa) (fn : List He.DefD) : PySem.W.Hook where
  α := Bool × He.AlD
  obs := fun s => (xb (He.frG s.heap.get? (He.asD s.heap.get? n)), He.obsD fa fn (He.frG s.heap.get? (He.asD s.heap.get? n)))
  val := fun _ => (true, He.valD fn)
  says := fun _ h => ∃ K : PySem.W.Frag, K.In h ∧ xb K = true ∧ He.SaysD fa fn K
  of := fun _ _ e => ⟨_, He.frG_in, congrArg (fun z : Bool × He.AlD => z.1) e, congrArg (fun z : Bool × He.AlD => z.2) e⟩
  keeps := fun _ _ _ ⟨K, hK, b, c⟩ k => ⟨K, PySem.W.Frag.In.keeps hK k, b, c⟩
def obX (n : Nat) (xb : PySem.W.Frag → Bool) (fa : List He.Fa) (fn : List He.DefD) (g : Addr → Option Obj) : Bool × He.AlD :=
  let K := He.frG g (He.asD g n)
  (xb K, He.obsD fa fn K)
theorem obX_eq {n : Nat} {xb : PySem.W.Frag → Bool} {fa : List He.Fa} {fn : List He.DefD} {g : Addr → Option Obj} {s : Shared} (h : ∀ a, g a = s.heap.get? a) : obX n xb fa fn g = (hookX n xb fa fn).obs s := by
  have e : g = s.heap.get? := funext h
  subst e
  rfl
end DL

namespace DL
open PySem PySem.Spec PyProof.Rows L2
section
variable {g gb : DS} {gh rest : DH} {E : DEnds} {δ : DEnv} {x : XD} {c y : Str} {cl cs : List Str} {i : Nat} {d : D} {ds : List D} {P : D → Prop} {a : Option D} {b : Bool} {z : Int} {s : Str}
theorem q_raise : dRaise c E δ = E.xx ⟨c, Option.none⟩ δ := rfl
theorem q_try : dTry gb gh E δ = gb { nx := E.nx, rt := E.rt, bk := E.bk, ct := E.ct, xx := gh E } δ := rfl
theorem q_hNil : hNil E x δ = E.xx x δ := rfl
theorem q_hAs : hAsD cl y i g rest E ⟨c, a⟩ δ = (c ∈ cl ∧ sif (subE c y) (fun δ => setK δ i (.v (excOf ⟨c, a⟩)) (fun δ1 => g (unsetE E i) δ1)) (fun δ => rest E ⟨c, a⟩ δ) () () δ) := rfl
theorem q_hOn : hOnD cl y g rest E ⟨c, a⟩ δ = (c ∈ cl ∧ sif (subE c y) (fun δ => g (quietE E) δ) (fun δ => rest E ⟨c, a⟩ δ) () () δ) := rfl
theorem q_exc0 : excOf ⟨c, Option.none⟩ = .exc c [] := rfl
theorem q_exc1 : excOf ⟨c, some d⟩ = .exc c [d] := rfl
theorem q_unset : unsetE E i = { nx := fun δ => setK δ i .no E.nx, rt := E.rt, bk := fun δ => setK δ i .no E.bk, ct := fun δ => setK δ i .no E.ct, xx := fun _ _ => False } := rfl
theorem q_quiet : quietE E = { nx := E.nx, rt := E.rt, bk := E.bk, ct := E.ct, xx := fun _ _ => False } := rfl
theorem q_iscE : gIsc cl cs (.exc c ds) P = (c ∈ cl ∧ P (.bl (cs.any (subE c)))) := rfl
theorem q_iscN : gIsc cl cs .non P = P (.bl false) := rfl
theorem q_iscI : gIsc cl cs (.int z) P = P (.bl false) := rfl
theorem q_iscB : gIsc cl cs (.bl b) P = P (.bl false) := rfl
theorem q_iscS : gIsc cl cs (.str s) P = P (.bl false) := rfl
theorem q_iscL : gIsc cl cs (.lst ds) P = P (.bl false) := rfl
theorem q_iscT : gIsc cl cs (.tup ds) P = P (.bl false) := rfl
theorem q_at : gAt cl (.exc c [d]) P = (c ∈ cl ∧ P d) := propext ⟨fun ⟨_, _, e, h1, h2⟩ => by cases e; exact ⟨h1, h2⟩, fun ⟨h1, h2⟩ => ⟨_, _, rfl, h1, h2⟩⟩
theorem sub_land : subE c "LandError" = true := by simp [subE]
theorem sub_val : subE c "ValueError" = true := by simp [subE]
theorem sub_self : subE c c = true := by simp [subE]
theorem isNon_exc : DL.isNon (.exc c ds) = false := rfl
end
theorem sub_LandError_NoNumber : subE "LandError" "NoNumber" = false := by decide +kernel
theorem sub_LandError_NoLine : subE "LandError" "NoLine" = false := by decide +kernel
theorem sub_LandError_NoBox : subE "LandError" "NoBox" = false := by decide +kernel
theorem sub_LandError_TooMany : subE "LandError" "TooMany" = false := by decide +kernel
theorem sub_LandError_NoSpot : subE "LandError" "NoSpot" = false := by decide +kernel
theorem sub_LandError_NoName : subE "LandError" "NoName" = false := by decide +kernel
theorem sub_LandError_Taken : subE "LandError" "Taken" = false := by decide +kernel
theorem sub_LandError_Unknown : subE "LandError" "Unknown" = false := by decide +kernel
theorem sub_LandError_NoDeed : subE "LandError" "NoDeed" = false := by decide +kernel
theorem sub_LandError_NoLot : subE "LandError" "NoLot" = false := by decide +kernel
theorem sub_LandError_NoCount : subE "LandError" "NoCount" = false := by decide +kernel
theorem sub_LandError_NoWeights : subE "LandError" "NoWeights" = false := by decide +kernel
theorem sub_LandError_NoText : subE "LandError" "NoText" = false := by decide +kernel
theorem sub_LandError_NoRow : subE "LandError" "NoRow" = false := by decide +kernel
theorem sub_NoNumber_NoLine : subE "NoNumber" "NoLine" = false := by decide +kernel
theorem sub_NoNumber_NoBox : subE "NoNumber" "NoBox" = false := by decide +kernel
theorem sub_NoNumber_TooMany : subE "NoNumber" "TooMany" = false := by decide +kernel
theorem sub_NoNumber_NoSpot : subE "NoNumber" "NoSpot" = false := by decide +kernel
theorem sub_NoNumber_NoName : subE "NoNumber" "NoName" = false := by decide +kernel
theorem sub_NoNumber_Taken : subE "NoNumber" "Taken" = false := by decide +kernel
theorem sub_NoNumber_Unknown : subE "NoNumber" "Unknown" = false := by decide +kernel
theorem sub_NoNumber_NoDeed : subE "NoNumber" "NoDeed" = false := by decide +kernel
theorem sub_NoNumber_NoLot : subE "NoNumber" "NoLot" = false := by decide +kernel
theorem sub_NoNumber_NoCount : subE "NoNumber" "NoCount" = false := by decide +kernel
theorem sub_NoNumber_NoWeights : subE "NoNumber" "NoWeights" = false := by decide +kernel
theorem sub_NoNumber_NoText : subE "NoNumber" "NoText" = false := by decide +kernel
theorem sub_NoNumber_NoRow : subE "NoNumber" "NoRow" = false := by decide +kernel
theorem sub_NoLine_NoNumber : subE "NoLine" "NoNumber" = false := by decide +kernel
theorem sub_NoLine_NoBox : subE "NoLine" "NoBox" = false := by decide +kernel
theorem sub_NoLine_TooMany : subE "NoLine" "TooMany" = false := by decide +kernel
theorem sub_NoLine_NoSpot : subE "NoLine" "NoSpot" = false := by decide +kernel
theorem sub_NoLine_NoName : subE "NoLine" "NoName" = false := by decide +kernel
theorem sub_NoLine_Taken : subE "NoLine" "Taken" = false := by decide +kernel
theorem sub_NoLine_Unknown : subE "NoLine" "Unknown" = false := by decide +kernel
theorem sub_NoLine_NoDeed : subE "NoLine" "NoDeed" = false := by decide +kernel
theorem sub_NoLine_NoLot : subE "NoLine" "NoLot" = false := by decide +kernel
theorem sub_NoLine_NoCount : subE "NoLine" "NoCount" = false := by decide +kernel
theorem sub_NoLine_NoWeights : subE "NoLine" "NoWeights" = false := by decide +kernel
theorem sub_NoLine_NoText : subE "NoLine" "NoText" = false := by decide +kernel
theorem sub_NoLine_NoRow : subE "NoLine" "NoRow" = false := by decide +kernel
theorem sub_NoBox_NoNumber : subE "NoBox" "NoNumber" = false := by decide +kernel
theorem sub_NoBox_NoLine : subE "NoBox" "NoLine" = false := by decide +kernel
theorem sub_NoBox_TooMany : subE "NoBox" "TooMany" = false := by decide +kernel
theorem sub_NoBox_NoSpot : subE "NoBox" "NoSpot" = false := by decide +kernel
theorem sub_NoBox_NoName : subE "NoBox" "NoName" = false := by decide +kernel
theorem sub_NoBox_Taken : subE "NoBox" "Taken" = false := by decide +kernel
theorem sub_NoBox_Unknown : subE "NoBox" "Unknown" = false := by decide +kernel
theorem sub_NoBox_NoDeed : subE "NoBox" "NoDeed" = false := by decide +kernel
theorem sub_NoBox_NoLot : subE "NoBox" "NoLot" = false := by decide +kernel
theorem sub_NoBox_NoCount : subE "NoBox" "NoCount" = false := by decide +kernel
theorem sub_NoBox_NoWeights : subE "NoBox" "NoWeights" = false := by decide +kernel
theorem sub_NoBox_NoText : subE "NoBox" "NoText" = false := by decide +kernel
theorem sub_NoBox_NoRow : subE "NoBox" "NoRow" = false := by decide +kernel
theorem sub_TooMany_NoNumber : subE "TooMany" "NoNumber" = false := by decide +kernel
theorem sub_TooMany_NoLine : subE "TooMany" "NoLine" = false := by decide +kernel
theorem sub_TooMany_NoBox : subE "TooMany" "NoBox" = false := by decide +kernel
theorem sub_TooMany_NoSpot : subE "TooMany" "NoSpot" = false := by decide +kernel
theorem sub_TooMany_NoName : subE "TooMany" "NoName" = false := by decide +kernel
theorem sub_TooMany_Taken : subE "TooMany" "Taken" = false := by decide +kernel
theorem sub_TooMany_Unknown : subE "TooMany" "Unknown" = false := by decide +kernel
theorem sub_TooMany_NoDeed : subE "TooMany" "NoDeed" = false := by decide +kernel
theorem sub_TooMany_NoLot : subE "TooMany" "NoLot" = false := by decide +kernel
theorem sub_TooMany_NoCount : subE "TooMany" "NoCount" = false := by decide +kernel
theorem sub_TooMany_NoWeights : subE "TooMany" "NoWeights" = false := by decide +kernel
theorem sub_TooMany_NoText : subE "TooMany" "NoText" = false := by decide +kernel
theorem sub_TooMany_NoRow : subE "TooMany" "NoRow" = false := by decide +kernel
theorem sub_NoSpot_NoNumber : subE "NoSpot" "NoNumber" = false := by decide +kernel
theorem sub_NoSpot_NoLine : subE "NoSpot" "NoLine" = false := by decide +kernel
theorem sub_NoSpot_NoBox : subE "NoSpot" "NoBox" = false := by decide +kernel
theorem sub_NoSpot_TooMany : subE "NoSpot" "TooMany" = false := by decide +kernel
theorem sub_NoSpot_NoName : subE "NoSpot" "NoName" = false := by decide +kernel
theorem sub_NoSpot_Taken : subE "NoSpot" "Taken" = false := by decide +kernel
theorem sub_NoSpot_Unknown : subE "NoSpot" "Unknown" = false := by decide +kernel
theorem sub_NoSpot_NoDeed : subE "NoSpot" "NoDeed" = false := by decide +kernel
theorem sub_NoSpot_NoLot : subE "NoSpot" "NoLot" = false := by decide +kernel
theorem sub_NoSpot_NoCount : subE "NoSpot" "NoCount" = false := by decide +kernel
theorem sub_NoSpot_NoWeights : subE "NoSpot" "NoWeights" = false := by decide +kernel
theorem sub_NoSpot_NoText : subE "NoSpot" "NoText" = false := by decide +kernel
theorem sub_NoSpot_NoRow : subE "NoSpot" "NoRow" = false := by decide +kernel
theorem sub_NoName_NoNumber : subE "NoName" "NoNumber" = false := by decide +kernel
theorem sub_NoName_NoLine : subE "NoName" "NoLine" = false := by decide +kernel
theorem sub_NoName_NoBox : subE "NoName" "NoBox" = false := by decide +kernel
theorem sub_NoName_TooMany : subE "NoName" "TooMany" = false := by decide +kernel
theorem sub_NoName_NoSpot : subE "NoName" "NoSpot" = false := by decide +kernel
theorem sub_NoName_Taken : subE "NoName" "Taken" = false := by decide +kernel
theorem sub_NoName_Unknown : subE "NoName" "Unknown" = false := by decide +kernel
theorem sub_NoName_NoDeed : subE "NoName" "NoDeed" = false := by decide +kernel
theorem sub_NoName_NoLot : subE "NoName" "NoLot" = false := by decide +kernel
theorem sub_NoName_NoCount : subE "NoName" "NoCount" = false := by decide +kernel
theorem sub_NoName_NoWeights : subE "NoName" "NoWeights" = false := by decide +kernel
theorem sub_NoName_NoText : subE "NoName" "NoText" = false := by decide +kernel
theorem sub_NoName_NoRow : subE "NoName" "NoRow" = false := by decide +kernel
theorem sub_Taken_NoNumber : subE "Taken" "NoNumber" = false := by decide +kernel
theorem sub_Taken_NoLine : subE "Taken" "NoLine" = false := by decide +kernel
theorem sub_Taken_NoBox : subE "Taken" "NoBox" = false := by decide +kernel
theorem sub_Taken_TooMany : subE "Taken" "TooMany" = false := by decide +kernel
theorem sub_Taken_NoSpot : subE "Taken" "NoSpot" = false := by decide +kernel
theorem sub_Taken_NoName : subE "Taken" "NoName" = false := by decide +kernel
theorem sub_Taken_Unknown : subE "Taken" "Unknown" = false := by decide +kernel
theorem sub_Taken_NoDeed : subE "Taken" "NoDeed" = false := by decide +kernel
theorem sub_Taken_NoLot : subE "Taken" "NoLot" = false := by decide +kernel
theorem sub_Taken_NoCount : subE "Taken" "NoCount" = false := by decide +kernel
theorem sub_Taken_NoWeights : subE "Taken" "NoWeights" = false := by decide +kernel
theorem sub_Taken_NoText : subE "Taken" "NoText" = false := by decide +kernel
theorem sub_Taken_NoRow : subE "Taken" "NoRow" = false := by decide +kernel
theorem sub_Unknown_NoNumber : subE "Unknown" "NoNumber" = false := by decide +kernel
theorem sub_Unknown_NoLine : subE "Unknown" "NoLine" = false := by decide +kernel
theorem sub_Unknown_NoBox : subE "Unknown" "NoBox" = false := by decide +kernel
theorem sub_Unknown_TooMany : subE "Unknown" "TooMany" = false := by decide +kernel
theorem sub_Unknown_NoSpot : subE "Unknown" "NoSpot" = false := by decide +kernel
theorem sub_Unknown_NoName : subE "Unknown" "NoName" = false := by decide +kernel
theorem sub_Unknown_Taken : subE "Unknown" "Taken" = false := by decide +kernel
theorem sub_Unknown_NoDeed : subE "Unknown" "NoDeed" = false := by decide +kernel
theorem sub_Unknown_NoLot : subE "Unknown" "NoLot" = false := by decide +kernel
theorem sub_Unknown_NoCount : subE "Unknown" "NoCount" = false := by decide +kernel
theorem sub_Unknown_NoWeights : subE "Unknown" "NoWeights" = false := by decide +kernel
theorem sub_Unknown_NoText : subE "Unknown" "NoText" = false := by decide +kernel
theorem sub_Unknown_NoRow : subE "Unknown" "NoRow" = false := by decide +kernel
theorem sub_NoDeed_NoNumber : subE "NoDeed" "NoNumber" = false := by decide +kernel
theorem sub_NoDeed_NoLine : subE "NoDeed" "NoLine" = false := by decide +kernel
theorem sub_NoDeed_NoBox : subE "NoDeed" "NoBox" = false := by decide +kernel
theorem sub_NoDeed_TooMany : subE "NoDeed" "TooMany" = false := by decide +kernel
theorem sub_NoDeed_NoSpot : subE "NoDeed" "NoSpot" = false := by decide +kernel
theorem sub_NoDeed_NoName : subE "NoDeed" "NoName" = false := by decide +kernel
theorem sub_NoDeed_Taken : subE "NoDeed" "Taken" = false := by decide +kernel
theorem sub_NoDeed_Unknown : subE "NoDeed" "Unknown" = false := by decide +kernel
theorem sub_NoDeed_NoLot : subE "NoDeed" "NoLot" = false := by decide +kernel
theorem sub_NoDeed_NoCount : subE "NoDeed" "NoCount" = false := by decide +kernel
theorem sub_NoDeed_NoWeights : subE "NoDeed" "NoWeights" = false := by decide +kernel
theorem sub_NoDeed_NoText : subE "NoDeed" "NoText" = false := by decide +kernel
theorem sub_NoDeed_NoRow : subE "NoDeed" "NoRow" = false := by decide +kernel
theorem sub_NoLot_NoNumber : subE "NoLot" "NoNumber" = false := by decide +kernel
theorem sub_NoLot_NoLine : subE "NoLot" "NoLine" = false := by decide +kernel
theorem sub_NoLot_NoBox : subE "NoLot" "NoBox" = false := by decide +kernel
theorem sub_NoLot_TooMany : subE "NoLot" "TooMany" = false := by decide +kernel
theorem sub_NoLot_NoSpot : subE "NoLot" "NoSpot" = false := by decide +kernel
theorem sub_NoLot_NoName : subE "NoLot" "NoName" = false := by decide +kernel
theorem sub_NoLot_Taken : subE "NoLot" "Taken" = false := by decide +kernel
theorem sub_NoLot_Unknown : subE "NoLot" "Unknown" = false := by decide +kernel
theorem sub_NoLot_NoDeed : subE "NoLot" "NoDeed" = false := by decide +kernel
theorem sub_NoLot_NoCount : subE "NoLot" "NoCount" = false := by decide +kernel
theorem sub_NoLot_NoWeights : subE "NoLot" "NoWeights" = false := by decide +kernel
theorem sub_NoLot_NoText : subE "NoLot" "NoText" = false := by decide +kernel
theorem sub_NoLot_NoRow : subE "NoLot" "NoRow" = false := by decide +kernel
theorem sub_NoCount_NoNumber : subE "NoCount" "NoNumber" = false := by decide +kernel
theorem sub_NoCount_NoLine : subE "NoCount" "NoLine" = false := by decide +kernel
theorem sub_NoCount_NoBox : subE "NoCount" "NoBox" = false := by decide +kernel
theorem sub_NoCount_TooMany : subE "NoCount" "TooMany" = false := by decide +kernel
theorem sub_NoCount_NoSpot : subE "NoCount" "NoSpot" = false := by decide +kernel
theorem sub_NoCount_NoName : subE "NoCount" "NoName" = false := by decide +kernel
theorem sub_NoCount_Taken : subE "NoCount" "Taken" = false := by decide +kernel
theorem sub_NoCount_Unknown : subE "NoCount" "Unknown" = false := by decide +kernel
theorem sub_NoCount_NoDeed : subE "NoCount" "NoDeed" = false := by decide +kernel
theorem sub_NoCount_NoLot : subE "NoCount" "NoLot" = false := by decide +kernel
theorem sub_NoCount_NoWeights : subE "NoCount" "NoWeights" = false := by decide +kernel
theorem sub_NoCount_NoText : subE "NoCount" "NoText" = false := by decide +kernel
theorem sub_NoCount_NoRow : subE "NoCount" "NoRow" = false := by decide +kernel
theorem sub_NoWeights_NoNumber : subE "NoWeights" "NoNumber" = false := by decide +kernel
theorem sub_NoWeights_NoLine : subE "NoWeights" "NoLine" = false := by decide +kernel
theorem sub_NoWeights_NoBox : subE "NoWeights" "NoBox" = false := by decide +kernel
theorem sub_NoWeights_TooMany : subE "NoWeights" "TooMany" = false := by decide +kernel
theorem sub_NoWeights_NoSpot : subE "NoWeights" "NoSpot" = false := by decide +kernel
theorem sub_NoWeights_NoName : subE "NoWeights" "NoName" = false := by decide +kernel
theorem sub_NoWeights_Taken : subE "NoWeights" "Taken" = false := by decide +kernel
theorem sub_NoWeights_Unknown : subE "NoWeights" "Unknown" = false := by decide +kernel
theorem sub_NoWeights_NoDeed : subE "NoWeights" "NoDeed" = false := by decide +kernel
theorem sub_NoWeights_NoLot : subE "NoWeights" "NoLot" = false := by decide +kernel
theorem sub_NoWeights_NoCount : subE "NoWeights" "NoCount" = false := by decide +kernel
theorem sub_NoWeights_NoText : subE "NoWeights" "NoText" = false := by decide +kernel
theorem sub_NoWeights_NoRow : subE "NoWeights" "NoRow" = false := by decide +kernel
theorem sub_NoText_NoNumber : subE "NoText" "NoNumber" = false := by decide +kernel
theorem sub_NoText_NoLine : subE "NoText" "NoLine" = false := by decide +kernel
theorem sub_NoText_NoBox : subE "NoText" "NoBox" = false := by decide +kernel
theorem sub_NoText_TooMany : subE "NoText" "TooMany" = false := by decide +kernel
theorem sub_NoText_NoSpot : subE "NoText" "NoSpot" = false := by decide +kernel
theorem sub_NoText_NoName : subE "NoText" "NoName" = false := by decide +kernel
theorem sub_NoText_Taken : subE "NoText" "Taken" = false := by decide +kernel
theorem sub_NoText_Unknown : subE "NoText" "Unknown" = false := by decide +kernel
theorem sub_NoText_NoDeed : subE "NoText" "NoDeed" = false := by decide +kernel
theorem sub_NoText_NoLot : subE "NoText" "NoLot" = false := by decide +kernel
theorem sub_NoText_NoCount : subE "NoText" "NoCount" = false := by decide +kernel
theorem sub_NoText_NoWeights : subE "NoText" "NoWeights" = false := by decide +kernel
theorem sub_NoText_NoRow : subE "NoText" "NoRow" = false := by decide +kernel
theorem sub_NoRow_NoNumber : subE "NoRow" "NoNumber" = false := by decide +kernel
theorem sub_NoRow_NoLine : subE "NoRow" "NoLine" = false := by decide +kernel
theorem sub_NoRow_NoBox : subE "NoRow" "NoBox" = false := by decide +kernel
theorem sub_NoRow_TooMany : subE "NoRow" "TooMany" = false := by decide +kernel
theorem sub_NoRow_NoSpot : subE "NoRow" "NoSpot" = false := by decide +kernel
theorem sub_NoRow_NoName : subE "NoRow" "NoName" = false := by decide +kernel
theorem sub_NoRow_Taken : subE "NoRow" "Taken" = false := by decide +kernel
theorem sub_NoRow_Unknown : subE "NoRow" "Unknown" = false := by decide +kernel
theorem sub_NoRow_NoDeed : subE "NoRow" "NoDeed" = false := by decide +kernel
theorem sub_NoRow_NoLot : subE "NoRow" "NoLot" = false := by decide +kernel
theorem sub_NoRow_NoCount : subE "NoRow" "NoCount" = false := by decide +kernel
theorem sub_NoRow_NoWeights : subE "NoRow" "NoWeights" = false := by decide +kernel
theorem sub_NoRow_NoText : subE "NoRow" "NoText" = false := by decide +kernel
end DL

namespace DL
open PySem PySem.Spec PyProof.Rows L2
/-! ### dicts -/
section
variable {κ : Type} [DecidableEq κ]
def lk (kvs : List (κ × D)) (k : κ) : Option D := (kvs.find? fun kv => decide (kv.1 = k)).map (·.2)
def pk (kvs : List (κ × D)) (k : κ) (d : D) : List (κ × D) := if (kvs.any fun kv => decide (kv.1 = k)) = true then kvs.map (fun kv => if kv.1 = k then (kv.1, d) else kv) else kvs ++ [(k, d)]
end
section
variable {K : PySem.W.Frag} {W : AS} {H : Hp}
/-- a dict's entries, by their keys -/
inductive RepX (K : PySem.W.Frag) (W : AS) (H : Hp) (κ : Type) : List (κ × V) → List (κ × D) → Prop
  | nil : RepX K W H κ [] []
  | cons {k : κ} {v : V} {d : D} {vs : List (κ × V)} {ds : List (κ × D)} : Rep K W H v d → RepX K W H κ vs ds → RepX K W H κ ((k, v) :: vs) ((k, d) :: ds)
theorem RepKV.x : ∀ {es : List (Key × V)} {kvs : List (Key × D)}, RepKV K W H es kvs → RepX K W H Key es kvs
  | [], _, h => by cases h; exact .nil
  | _ :: _, _, h => by cases h with | cons a b => exact .cons a b.x
theorem RepX.kv : ∀ {es : List (Key × V)} {kvs : List (Key × D)}, RepX K W H Key es kvs → RepKV K W H es kvs
  | [], _, h => by cases h; exact .nil
  | _ :: _, _, h => by cases h with | cons a b => exact .cons a b.kv
theorem RepTV.x : ∀ {es : List (List Key × V)} {kvs : List (List Key × D)}, RepTV K W H es kvs → RepX K W H (List Key) es kvs
  | [], _, h => by cases h; exact .nil
  | _ :: _, _, h => by cases h with | cons a b => exact .cons a b.x
theorem RepX.tv : ∀ {es : List (List Key × V)} {kvs : List (List Key × D)}, RepX K W H (List Key) es kvs → RepTV K W H es kvs
  | [], _, h => by cases h; exact .nil
  | _ :: _, _, h => by cases h with | cons a b => exact .cons a b.tv
variable {κ : Type} [DecidableEq κ]
theorem RepX.length : ∀ {es : List (κ × V)} {kvs : List (κ × D)}, RepX K W H κ es kvs → es.length = kvs.length
  | [], _, h => by cases h; rfl
  | _ :: _, _, h => by cases h with | cons a b => exact congrArg (· + 1) b.length
theorem RepX.look {k : κ} {d : D} : ∀ {es : List (κ × V)} {kvs : List (κ × D)}, RepX K W H κ es kvs → lk kvs k = some d → ∃ v, valV es k = some v ∧ Rep K W H v d
  | [], _, h, e => by cases h; cases e
  | _ :: _, _, h, e => by
    cases h with
    | @cons k' v d' vs ds a b =>
      by_cases hk : k' = k
      · subst hk
        have : some d' = some d := by simpa [lk] using e
        cases this
        exact ⟨v, by simp [valV], a⟩
      · have e' : lk ds k = some d := by simpa [lk, hk] using e
        obtain ⟨z, h1, h2⟩ := b.look e'
        exact ⟨z, by simpa [valV, hk] using h1, h2⟩
theorem RepX.lookN {k : κ} : ∀ {es : List (κ × V)} {kvs : List (κ × D)}, RepX K W H κ es kvs → lk kvs k = none → valV es k = none
  | [], _, h, e => by cases h; rfl
  | _ :: _, _, h, e => by
    cases h with
    | @cons k' v d' vs ds a b =>
      by_cases hk : k' = k
      · subst hk
        simp [lk] at e
      · have e' : lk ds k = none := by simpa [lk, hk] using e
        simpa [valV, hk] using b.lookN e'
theorem RepX.any {k : κ} : ∀ {es : List (κ × V)} {kvs : List (κ × D)}, RepX K W H κ es kvs → (es.any fun kv => decide (kv.1 = k)) = (kvs.any fun kv => decide (kv.1 = k))
  | [], _, h => by cases h; rfl
  | _ :: _, _, h => by
    cases h with
    | cons a b => rw [List.any_cons, List.any_cons, b.any]
theorem RepX.snoc {k : κ} {v : V} {d : D} (r : Rep K W H v d) : ∀ {es : List (κ × V)} {kvs : List (κ × D)}, RepX K W H κ es kvs → RepX K W H κ (es ++ [(k, v)]) (kvs ++ [(k, d)])
  | [], _, h => by cases h; exact .cons r .nil
  | _ :: _, _, h => by cases h with | cons a b => exact .cons a (b.snoc r)
theorem RepX.over {k : κ} {v : V} {d : D} (r : Rep K W H v d) : ∀ {es : List (κ × V)} {kvs : List (κ × D)}, RepX K W H κ es kvs → RepX K W H κ (es.map fun kv => if kv.1 = k then (kv.1, v) else kv) (kvs.map fun kv => if kv.1 = k then (kv.1, d) else kv)
  | [], _, h => by cases h; exact .nil
  | _ :: _, _, h => by
    cases h with
    | @cons k' v' d' vs ds a b =>
      rw [List.map_cons, List.map_cons]
      by_cases hk : k' = k
      · simp only [hk, if_true]; exact .cons r (b.over r)
      · simp only [hk, if_false]; exact .cons a (b.over r)
theorem RepX.put {k : κ} {v : V} {d : D} (r : Rep K W H v d) {es : List (κ × V)} {kvs : List (κ × D)} (h : RepX K W H κ es kvs) : RepX K W H κ (L2.putK es k v) (pk kvs k d) := by
  unfold L2.putK pk
  rw [h.any]
  split
  · exact h.over r
  · exact h.snoc r
end
theorem pk_len {κ : Type} [DecidableEq κ] (kvs : List (κ × D)) (k : κ) (d : D) : (pk kvs k d).length ≤ kvs.length + 1 := by
  unfold pk
  split <;> simp
section
variable {X : Cx} {B : Bd} {wx : WX} {fr : Bool} {pos p p2 : Pos} {a b c e : Expr} {es : List Expr} {f f1 f2 f3 : DE} {k i n : Nat} {fa : DA} {x z : Str}
/-- name['k'] -/
def dNKey (i : Nat) (k : Str) : DE := fun δ Q _ => ∃ kvs d, rdAt δ i = some (.dct kvs) ∧ lk kvs (Sum.inr k : Key) = some d ∧ Q d δ
theorem pd_nkey {j : Nat} (hr : Room n X.A) (h : PE X (.Name x p) (tVar i)) (hs : NoSl (.Constant (.str z) j p2)) : PD X B wx (.Subscript (.Name x p) (.Constant (.str z) j p2) pos) (dNKey i z) := by
  refine ⟨fun δ Q Q' E E' k ke ⟨kvs, d, h1, h2, h3⟩ => ⟨kvs, d, h1, h2, k _ _ h3⟩, pe_imp (pe_dget (hu_of hr) h pe_str hs) fun σ H Q ⟨W, δ, er, kvs, d, h1, h2, h3⟩ => ?_⟩
  obtain ⟨v, ev, hv⟩ := er.rd h1
  refine ⟨v, ev, ?_⟩
  rcases hv with r | ⟨ad, rfl, o⟩
  · cases r with
    | dct hx nw rs =>
      obtain ⟨u, e1, ru⟩ := rs.x.look h2
      exact ⟨_, u, rfl, e1 ▸ DGet.k (k := Sum.inr z) hx, h3 u H W .refl er ru⟩
  · obtain ⟨es', hx, rs⟩ := o
    obtain ⟨u, e1, ru⟩ := rs.x.look h2
    exact ⟨_, u, rfl, e1 ▸ DGet.k (k := Sum.inr z) hx, h3 u H W .refl er ru⟩
/-- name['k'] = e -/
def dPutK (i : Nat) (k : Str) (fe : DE) : DS := fun E δ => fe δ (fun d δ1 => ∃ kvs, ownAt δ1 i = some (.dct kvs) ∧ kvs.length < 1000 ∧ E.nx (putAt δ1 i (.dct (pk kvs (Sum.inr k : Key) d)))) E.xx
theorem psd_putK {j : Nat} {tp : Pos} (hr : Room n X.A) (h : PE X (.Name x p) (tVar i)) (he : PD X B wx e f1) (hs : swapsWith e (some (.Subscript (.Name x p) (.Constant (.str z) j p2) tp)) pos.line X.env = pure false := by rfl) :
    PSD X B wx fr (.Assign [.Subscript (.Name x p) (.Constant (.str z) j p2) tp] e pos) (dPutK i z f1) := by
  refine ⟨fun E E' δ le h => he.mono _ _ _ _ _ (fun d δ1 ⟨kvs, h1, h2, h3⟩ => ⟨kvs, h1, h2, le.nx _ h3⟩) le.xx h, ps_imp (ps_dput (hu_of hr) h pe_str he.run hs) fun D σ H ⟨W, δ, er, q⟩ => ?_⟩
  refine ⟨W, δ, er, he.mono _ _ _ _ _ (fun d δ1 h1 v H1 W1 s1 er1 r1 => ?_) (fun x δ1 h1 c dd H1 W1 s1 er1 r1 => h1 c dd σ H1 W1 s1 er1 r1) q⟩
  obtain ⟨kvs, ho, hl, h2⟩ := h1
  obtain ⟨ad, ea, wa, ⟨es', hx, rs⟩, _⟩ := er1.ownAt ho
  refine ⟨.ref ad, ea, ad, upd H1 ad (.dK (L2.putK es' (Sum.inr z) v)), rfl, DPut.k (k := Sum.inr z) hx (by rw [rs.x.length, sizeLine_eq]; omega), ?_⟩
  have st : Step W1 H1 W1 (upd H1 ad (.dK (L2.putK es' (Sum.inr z) v))) := .write wa fun zs e => by rw [hx] at e; cases e
  obtain ⟨er3, s3⟩ := er1.write (H' := upd H1 ad (.dK (L2.putK es' (Sum.inr z) v))) (d' := .dct (pk kvs (Sum.inr z : Key) d)) ho ea (fun b o hb n => by rw [upd_ne n]; exact hb) ⟨_, upd_same, (RepX.put (r1.step st) (rs.step st).x).kv⟩
  exact h2 _ _ _ (s1.trans s3) er3
/-! {'a': e, ..} -/
structure PPsD (X : Cx) (wx : WX) (pos : Pos) (keys : List (Option Expr)) (values : List Expr) (ks : List Str) (f : DA) : Prop where
  mono : Mono f
  ex : ∃ trs, PPs X pos keys values trs ∧ ∀ B σ H Q, liftA X.K B wx f σ H (fun vs H' => Q ((ks.zip vs).map fun kv => (V.str kv.1, kv.2)) H') → tPairs trs σ H Q
theorem ppsd_nil : PPsD X wx pos [] [] [] dNil := ⟨fun δ Q Q' E E' k ke h => k _ _ h, [], pps_nil, fun B σ H Q ⟨W, δ, er, q⟩ => q [] H W .refl er .nil⟩
theorem ppsd_cons {j : Nat} {keys : List (Option Expr)} {vals : List Expr} {ks : List Str} (hv : ∀ B, PD X B wx e f1) (hr : PPsD X wx pos keys vals ks fa) :
    PPsD X wx pos (some (.Constant (.str z) j p2) :: keys) (e :: vals) (z :: ks) (dCons f1 fa) := by
  obtain ⟨mr, trs, hp, hq⟩ := hr
  have m1 := (hv Bd.nil).mono
  refine ⟨fun δ Q Q' E E' k ke h => m1 _ _ _ _ _ (fun d δ1 h => mr _ _ _ _ _ (fun ds δ2 h => k _ _ h) ke h) ke h, (tC (.str z), fun σ H Q => ∃ B, liftE X.K B wx f1 σ H Q) :: trs, pps_cons pe_str ⟨fun pins s σ H Q I ⟨B', q⟩ => (hv B').run.run pins s σ H Q I q⟩ hp, fun B σ H Q ⟨W, δ, er, q⟩ => ?_⟩
  refine ⟨B, W, δ, er, m1 _ _ _ _ _ (fun d δ1 h1 v1 H1 W1 s1 er1 r1 => ?_) (fun _ _ z => z) q⟩
  refine hq B _ _ _ ⟨W1, δ1, er1, mr _ _ _ _ _ (fun ds δ2 h2 v2 H2 W2 s2 er2 r2 => ?_) (fun _ _ z => z.step s1) h1⟩
  exact h2 (v1 :: v2) H2 W2 (s1.trans s2) er2 (.cons (r1.step s2) r2)
def dDisp (ks : List Str) (fa : DA) : DE := fun δ Q E => fa δ (fun ds δ1 => Q (.dct ((ks.zip ds).map fun kv => ((Sum.inr kv.1 : Key), kv.2))) δ1) E
theorem merge_nodup : ∀ (more acc : List (Key × V)), (more.map (·.1)).Nodup → (∀ k ∈ more.map (·.1), k ∉ acc.map (·.1)) → mergeK acc more = acc ++ more
  | [], acc, _, _ => by simp [mergeK]
  | (k, v) :: more, acc, nd, dj => by
    have nk : (acc.any fun kv => decide (kv.1 = k)) = false := by
      rw [List.any_eq_false]
      intro kv hkv
      have := dj k (by simp)
      simp only [decide_eq_true_eq]
      exact fun e => this (List.mem_map.mpr ⟨kv, hkv, e⟩)
    have e1 : L2.putK acc k v = acc ++ [(k, v)] := by unfold L2.putK; rw [nk]; simp
    rw [List.map_cons, List.nodup_cons] at nd
    have := merge_nodup more (acc ++ [(k, v)]) nd.2 (fun k' hk' => by
      rw [List.map_append, List.mem_append]
      intro h
      rcases h with h | h
      · exact dj k' (by rw [List.map_cons]; exact List.mem_cons_of_mem _ hk') h
      · simp only [List.map_cons, List.map_nil, List.mem_singleton] at h
        subst h
        exact nd.1 hk')
    show mergeK (L2.putK acc k v) more = _
    rw [e1, this, List.append_assoc]; rfl
theorem reps_zip {K : PySem.W.Frag} {W : AS} {H : Hp} : ∀ {ks : List Str} {vs : List V} {ds : List D}, Reps K W H vs ds → RepX K W H Key ((ks.zip vs).map fun kv => ((Sum.inr kv.1 : Key), kv.2)) ((ks.zip ds).map fun kv => ((Sum.inr kv.1 : Key), kv.2))
  | [], _, _, _ => .nil
  | _ :: _, [], _, h => by cases h; exact .nil
  | _ :: _, _ :: _, _, h => by cases h with | cons a b => exact .cons a (reps_zip b)
theorem zip_nodup : ∀ {ks : List Str} {vs : List V}, ks.Nodup → (((ks.zip vs).map fun kv => ((Sum.inr kv.1 : Key), kv.2)).map (·.1)).Nodup
  | [], _, _ => .nil
  | _ :: _, [], _ => .nil
  | k :: ks, v :: vs, nd => by
    rw [List.nodup_cons] at nd
    rw [List.zip_cons_cons, List.map_cons, List.map_cons, List.nodup_cons]
    refine ⟨fun h => ?_, zip_nodup nd.2⟩
    simp only [List.map_map, List.mem_map, Function.comp, Sum.inr.injEq] at h
    obtain ⟨⟨k', v'⟩, h1, h2⟩ := h
    simp only at h2
    subst h2
    exact nd.1 (List.of_mem_zip h1).1
theorem pf_disp {keys : List (Option Expr)} {vals : List Expr} {ks : List Str} (h : PPsD X wx pos keys vals ks fa) (nd : ks.Nodup) (hk : ks.length ≤ 15) (hall : keys.all (·.isSome) = true) (hl : keys.length = vals.length) (h0 : keys ≠ []) (h15 : keys.length ≤ 15) :
    PF X B wx (.Dict keys vals pos) (dDisp ks fa) := by
  obtain ⟨ma, trs, hp, htp⟩ := h
  refine ⟨fun δ Q Q' E E' k ke h' => ma _ _ _ _ _ (fun ds δ1 h => k _ _ h) ke h', pe_imp (pe_disp hp hall hl h0 h15) fun σ H Q ⟨W, δ, er, q⟩ => ?_⟩
  intro ad had
  have sm : Same H (upd H ad (.dK [])) := same_new had
  obtain ⟨er1, ns⟩ := er.alloc sm had ⟨_, upd_same⟩
  have h00 : B.H0 ad = Option.none := er.h0 had
  refine htp (B.plus ad (.dK [])) σ _ _ ⟨addW W ad, δ, er1.plus ns (.inr rfl) upd_same, ma _ _ _ _ _ (fun ds δ1 h1 vs H2 W2 s2 er2 r2 => ?_) (fun x δ1 h1 c dd H1 W1 s1 er1 r1 => ?_) q⟩
  · obtain ⟨er3, ns3, w3, h3⟩ := er2.minus h00
    let kvs : List (Key × V) := (ks.zip vs).map fun kv => ((Sum.inr kv.1 : Key), kv.2)
    have em : mergeK [] kvs = kvs := by
      rw [merge_nodup kvs [] (zip_nodup nd) (fun k _ z => by simp at z), List.nil_append]
    refine ⟨h3, kvs, ?_, ?_, ?_⟩
    · simp only [kvs, List.map_map]; rfl
    · simp only [kvs, List.length_map, List.length_zip]; omega
    rw [em]
    have nt : ∀ xs : List V, H2 ad = some (.tup xs) → False := fun zs e => by rw [h3] at e; cases e
    have st : Step W2 H2 W2 (upd H2 ad (.dK kvs)) := .write w3 nt
    have er4 := er3.poke (o := .dK kvs) ns3 w3 h00 nt
    exact h1 ad _ W2 (((Step.alloc sm had).trans s2).trans st) er4 had w3 ⟨_, upd_same, (reps_zip (r2.step st)).kv⟩ ns3
  · obtain ⟨er3, _⟩ := er1.minus h00
    exact h1 c dd H1 W1 ((Step.alloc sm had).trans s1) er3 r1
/-! ### a dict whose keys are tuples -/
def kD : Key → D
  | .inl i => .int i
  | .inr s => .str s
def dNewT : DE := fun δ Q _ => Q (.dtt []) δ
theorem pf_newT : PF X B wx (.Dict [] [] pos) dNewT := by
  refine ⟨fun δ Q Q' E E' k ke h => k _ _ h, pe_imp pe_dnewT fun σ H Q ⟨W, δ, er, q⟩ => ?_⟩
  intro ad had
  have sm : Same H (upd H ad (.dT [])) := same_new had
  obtain ⟨er1, ns⟩ := er.alloc sm had ⟨_, upd_same⟩
  exact q ad _ _ (.alloc sm had) er1 had (.inr rfl) ⟨_, upd_same, .nil⟩ ns
theorem reps_keys {K : PySem.W.Frag} {W : AS} {H : Hp} : ∀ {ks : List Key} {vs : List V}, Reps K W H vs (ks.map kD) → vs = ks.map kV
  | [], _, h => by cases h; rfl
  | k :: ks, _, h => by
    cases h with
    | cons a b =>
      rw [reps_keys b]
      cases k with
      | inl i => cases a; rfl
      | inr i => cases a; rfl
/-- name[key] = e -/
def dPutT (i : Nat) (fk fe : DE) : DS := fun E δ => fe δ (fun d δ1 => (∃ d0, ownAt δ1 i = some d0) ∧ fk δ1 (fun kd δ2 => ∃ ks kvs, kd = .tup (ks.map kD) ∧ ownAt δ2 i = some (.dtt kvs) ∧ kvs.length < 1000 ∧ E.nx (putAt δ2 i (.dtt (pk kvs ks d)))) E.xx) E.xx
theorem psd_putT {tp : Pos} (hr : Room n X.A) (h : PE X (.Name x p) (tVar i)) (hk : PD X B wx b f2) (he : PD X B wx e f1) (hs : swapsWith e (some (.Subscript (.Name x p) b tp)) pos.line X.env = pure false := by rfl) :
    PSD X B wx fr (.Assign [.Subscript (.Name x p) b tp] e pos) (dPutT i f2 f1) := by
  refine ⟨fun E E' δ le h => he.mono _ _ _ _ _ (fun d δ1 h => ⟨h.1, hk.mono _ _ _ _ _ (fun kd δ2 ⟨ks, kvs, h0, h1, h2, h3⟩ => ⟨ks, kvs, h0, h1, h2, le.nx _ h3⟩) le.xx h.2⟩) le.xx h, ps_imp (ps_dput (hu_of hr) h hk.run he.run hs) fun D σ H ⟨W, δ, er, q⟩ => ?_⟩
  refine ⟨W, δ, er, he.mono _ _ _ _ _ (fun d δ1 h1 v H1 W1 s1 er1 r1 => ?_) (fun x δ1 h1 c dd H1 W1 s1 er1 r1 => h1 c dd σ H1 W1 s1 er1 r1) q⟩
  obtain ⟨⟨d0, ho⟩, h1⟩ := h1
  obtain ⟨ad, ea, wa, o0, _⟩ := er1.ownAt ho
  refine ⟨.ref ad, ea, W1, δ1, er1, hk.mono _ _ _ _ _ (fun kd δ2 h2 v2 H2 W2 s2 er2 r2 => ?_) (fun x δ2 h2 c dd H2 W2 s2 er2 r2 => h2 c dd σ H2 W2 (s1.trans s2) er2 r2) h1⟩
  obtain ⟨ks, kvs, rfl, ho2, hl, h2⟩ := h2
  obtain ⟨ad', ea', wa', ⟨es', hx, rs⟩, _⟩ := er2.ownAt ho2
  rw [ea] at ea'; cases ea'
  cases r2 with
  | tup tw rt =>
    have ek := reps_keys rt
    subst ek
    refine ⟨ad, upd H2 ad (.dT (L2.putK es' ks v)), rfl, DPut.t hx tw (by rw [rs.x.length, sizeLine_eq]; omega), ?_⟩
    have st : Step W2 H2 W2 (upd H2 ad (.dT (L2.putK es' ks v))) := .write wa' fun zs e => by rw [hx] at e; cases e
    obtain ⟨er3, s3⟩ := er2.write (H' := upd H2 ad (.dT (L2.putK es' ks v))) (d' := .dtt (pk kvs ks d)) ho2 ea (fun b o hb n => by rw [upd_ne n]; exact hb) ⟨_, upd_same, (RepX.put ((r1.step s2).step st) (rs.step st).x).tv⟩
    exact h2 _ _ _ ((s1.trans s2).trans s3) er3
/-- list(d), d's keys tuples -/
def gListT : GA := fun ds Q => match ds with
  | [.dtt kvs] => Q (.lst (kvs.map fun kv => .tup (kv.1.map kD)))
  | _ => False
theorem reps_kd {K : PySem.W.Frag} {W : AS} {H : Hp} : ∀ (ks : List Key), Reps K W H (ks.map kV) (ks.map kD)
  | [] => .nil
  | .inl i :: ks => .cons (.int i) (reps_kd ks)
  | .inr i :: ks => .cons (.str i) (reps_kd ks)
theorem keys_reps {K : PySem.W.Frag} {W W2 : AS} {H H' : Hp} (t : ∀ a xs, H a = some (.tup xs) → H' a = some (.tup xs)) : ∀ {es : List (List Key × V)} {kvs : List (List Key × D)} {bs : List Addr}, RepX K W H (List Key) es kvs → IsKeys H es bs → Reps K W2 H' (bs.map V.ref) (kvs.map fun kv => .tup (kv.1.map kD))
  | [], _, _, h, ik => by cases h; cases ik; exact .nil
  | _ :: _, _, _, h, ik => by
    cases h with
    | cons a b =>
      cases ik with
      | cons c d => exact .cons (.tup (t _ _ c) (reps_kd _)) (keys_reps t b d)
theorem cf_listT {K : PySem.W.Frag} : CallF K (fun xs H Q => ∃ d kvs, xs = [V.ref d] ∧ Rd H d (.dT kvs) ∧ ∀ p bs, H p = none → IsKeys H kvs bs → Q (.ref p) (upd H p (.lst (bs.map V.ref)))) gListT where
  mono := fun d Q Q' k q => by
    unfold gListT at q ⊢
    split at q
    · exact k _ q
    · exact q.elim
  run := fun W H xs ds Q t r q => by
    unfold gListT at q
    split at q
    · cases r with
      | cons r rr =>
        cases rr
        cases r with
        | dtt hx nw rs => exact ⟨_, _, rfl, .inl hx, fun p bs hp ik => q p _ (same_new hp) hp ⟨_, upd_same, keys_reps (fun a xs ha => same_new hp a _ ha) rs.x ik⟩⟩
    · exact q.elim
theorem pf_listT (hc : X.calm = true) (hg : Gl X "list") (hm : X.mg "list" = none) (ha : PAD X B wx [e] fa) (he : starEach [e] X.env = (false, eval e X.env) :: starEach [] X.env := by rfl) (hpl : (backTo pos (starEach [] X.env)).any (·.1) = false := by rfl) :
    PF X B wx (.Call (.Name "list" p) [e] [] pos) (dCB gListT fa) := pf_ct (call_list_dT hc) cf_listT hg hm (by decide +kernel) ha (by decide) (by decide) he hpl
end
end DL

namespace DL
open PySem PySem.Spec PyProof.Rows L2
/-! ### words of dicts for simp -/
def keyK (dd : D) (k : Str) (kd : D → Prop) : Prop := ∃ kvs d, dd = .dct kvs ∧ lk kvs (Sum.inr k : Key) = some d ∧ kd d
def pkeyK (dd : D) (k : Str) (d : D) (kk : D → Prop) : Prop := ∃ kvs, dd = .dct kvs ∧ kvs.length < 1000 ∧ kk (.dct (pk kvs (Sum.inr k : Key) d))
def ptK (dd kd d : D) (kk : D → Prop) : Prop := ∃ ks kvs, kd = .tup (ks.map kD) ∧ dd = .dtt kvs ∧ kvs.length < 1000 ∧ kk (.dtt (pk kvs ks d))
/-- the feed of a law -/
abbrev feedD (c a l : D) : D := .dct [((Sum.inr "cells" : Key), c), ((Sum.inr "at" : Key), a), ((Sum.inr "left" : Key), l)]
section
variable {i : Nat} {k : Str} {f fk fe : DE} {fa : DA} {E : DEnds} {δ : DEnv} {Q : D → DEnv → Prop} {X : XC} {kd kk : D → Prop} {x y z d : D} {ks : List Str} {P : D → Prop}
theorem q_nkey : dNKey i k δ Q X = rdK δ i fun dd => keyK dd k fun d => Q d δ := propext ⟨fun ⟨kvs, d, h1, h2, h3⟩ => ⟨_, h1, kvs, d, rfl, h2, h3⟩, fun ⟨dd, h1, kvs, d, e, h2, h3⟩ => ⟨kvs, d, e ▸ h1, h2, h3⟩⟩
theorem q_putK : dPutK i k fe E δ = fe δ (fun d δ1 => ownK δ1 i fun dd => pkeyK dd k d fun d' => putK δ1 i d' E.nx) E.xx := by
  unfold dPutK
  congr 1
  funext d δ1
  exact propext ⟨fun ⟨kvs, h1, h2, h3⟩ => ⟨_, h1, kvs, rfl, h2, h3⟩, fun ⟨dd, h1, kvs, e, h2, h3⟩ => ⟨kvs, e ▸ h1, h2, h3⟩⟩
theorem q_putT : dPutT i fk fe E δ = fe δ (fun d δ1 => hasK δ1 i (fk δ1 (fun kd δ2 => ownK δ2 i fun dd => ptK dd kd d fun d' => putK δ2 i d' E.nx) E.xx)) E.xx := by
  unfold dPutT hasK
  congr 1
  funext d δ1
  congr 2
  funext kd δ2
  exact propext ⟨fun ⟨ks, kvs, h0, h1, h2, h3⟩ => ⟨_, h1, ks, kvs, h0, rfl, h2, h3⟩, fun ⟨dd, h1, ks, kvs, h0, e, h2, h3⟩ => ⟨ks, kvs, h0, e ▸ h1, h2, h3⟩⟩
theorem q_disp : dDisp ks fa δ Q X = fa δ (fun ds δ1 => Q (.dct ((ks.zip ds).map fun kv => ((Sum.inr kv.1 : Key), kv.2))) δ1) X := rfl
theorem q_dispF : (D.dct ((["cells", "at", "left"].zip [x, y, z]).map fun kv => ((Sum.inr kv.1 : Key), kv.2))) = feedD x y z := rfl
theorem q_newT : dNewT δ Q X = Q (.dtt []) δ := rfl
theorem keyK_of {kvs : List (Key × D)} (h : lk kvs (Sum.inr k : Key) = some d) : keyK (.dct kvs) k kd = kd d := propext ⟨fun ⟨_, _, e, h1, h2⟩ => by cases e; rw [h] at h1; cases h1; exact h2, fun h2 => ⟨_, _, rfl, h, h2⟩⟩
theorem sr_ca : (("cells" : Str) = ("at" : Str)) = False := by decide
theorem sr_cl : (("cells" : Str) = ("left" : Str)) = False := by decide
theorem sr_ac : (("at" : Str) = ("cells" : Str)) = False := by decide
theorem sr_al : (("at" : Str) = ("left" : Str)) = False := by decide
theorem sr_lc : (("left" : Str) = ("cells" : Str)) = False := by decide
theorem sr_la : (("left" : Str) = ("at" : Str)) = False := by decide
theorem q_fc : keyK (feedD x y z) "cells" kd = kd x := keyK_of (by simp [lk])
theorem q_fa : keyK (feedD x y z) "at" kd = kd y := keyK_of (by simp [lk, sr_ca])
theorem q_fl : keyK (feedD x y z) "left" kd = kd z := keyK_of (by simp [lk, sr_cl, sr_al])
theorem pkeyK_of {kvs : List (Key × D)} (h : kvs.length < 1000) : pkeyK (.dct kvs) k d kk = kk (.dct (pk kvs (Sum.inr k : Key) d)) := propext ⟨fun ⟨_, e, h1, h2⟩ => by cases e; exact h2, fun h2 => ⟨_, rfl, h, h2⟩⟩
theorem q_pa : pkeyK (feedD x y z) "at" d kk = kk (feedD x d z) := by
  rw [pkeyK_of (by simp)]
  simp [pk, sr_ca, sr_la]
theorem q_pl : pkeyK (feedD x y z) "left" d kk = kk (feedD x y d) := by
  rw [pkeyK_of (by simp)]
  simp [pk, sr_cl, sr_al]
theorem q_listT0 {kvs : List (List Key × D)} : gListT [.dtt kvs] P = P (.lst (kvs.map fun kv => .tup (kv.1.map kD))) := rfl
end
/-! ### e ** 2 of great ints -/
def CSq (i j : Int) : Prop := j = 2 ∧ i.natAbs < 2 ^ 100000
theorem op_sq {X : Cx} : OpR X (binaryOp .Pow) (rI CSq fun i _ => .int (i * i)) := opI fun i j t u s Q E hc q => by
  obtain ⟨rfl, hz⟩ := hc
  refine pow_int (by decide) ?_ (by rw [show i ^ (2 : Int).toNat = i * i from int_pow_two i]; exact q)
  have : Builtin.Int.intBits i ≤ 100001 := by
    unfold Builtin.Int.intBits
    split
    · omega
    · rename_i h
      have h0 : i.natAbs ≠ 0 := fun e => by simp at h; omega
      have := (Nat.log2_lt h0).mpr hz
      omega
  have e : ((2 : Int) ^ 27) = 134217728 := by decide
  rw [e]
  omega
abbrev dSq := dOp (gI CSq fun i _ => .int (i * i))
theorem pd_sq {X : Cx} {B : Bd} {wx : WX} {pos : Pos} {a b : Expr} {f1 f2 : DE} (ha : PD X B wx a f1) (hb : PD X B wx b f2) : PD X B wx (.BinOp a .Pow b pos) (dSq f1 f2) := pd_op op_sq (od_I fun _ _ _ _ => .int _) ha hb
theorem csq {n : Nat} {i : Int} (h : Zb n i) (s : n ≤ 100000) : CSq i 2 := ⟨rfl, Zb.mono h s⟩
/-- a def of which nothing is asked -/
theorem fn_okN {P : Program} {w : World} {K : PySem.W.Frag} {mg : Str → Option Value} {base : Heap} {CX : CXT} {k : Nat} {f : Addr} {fd : FuncData} {ps : List Str} {fr : Bool} : FnOk P w K mg base CX k f fd ps (spD K fr fun _ _ _ => False) :=
  ⟨fun _ _ _ _ ⟨_, _, _, _, h⟩ => h.elim, fun _ _ _ _ _ _ _ _ _ _ _ _ _ ⟨_, _, _, _, h⟩ => h.elim⟩
end DL

namespace DL
open PySem PySem.Spec PyProof.Rows L2
/-! ### x in xs -/
def gIn : G2 := fun d e Q => ∃ ds, e = .lst ds ∧ shp d = true ∧ shp (.lst ds) = true ∧ Q (.bl (ds.any fun z => eqd z d))
def gNotIn : G2 := fun d e Q => ∃ ds, e = .lst ds ∧ shp d = true ∧ shp (.lst ds) = true ∧ Q (.bl (!ds.any fun z => eqd z d))
theorem toPs_map : ∀ ds : List D, toPs ds = ds.map toP
  | [] => by simp only [toPs, List.map_nil]
  | d :: ds => by simp only [toPs, List.map_cons, toPs_map ds]
theorem od_in {K : PySem.W.Frag} : OpD K (rInD K) gIn where
  mono := fun d e Q Q' k ⟨ds, h0, h1, h2, h3⟩ => ⟨ds, h0, h1, h2, k _ h3⟩
  run := fun W H x y d e Q t rx ry ⟨ds, h0, h1, h2, h3⟩ => by
    subst h0
    refine ⟨toP d, toPs ds, rx.dp (SeqAt.canLay_of_shaped h1), ?_, h1, ?_, ?_⟩
    · have := ry.dp (SeqAt.canLay_of_shaped h2)
      simpa only [toP] using this
    · have : SeqAt.shaped (toP (.lst ds)) = true := h2
      simpa only [toP] using this
    · rw [toPs_map, List.any_map]
      exact h3 _ H (Same.refl H) (.bl _)
theorem od_notIn {K : PySem.W.Frag} : OpD K (rNotInD K) gNotIn where
  mono := fun d e Q Q' k ⟨ds, h0, h1, h2, h3⟩ => ⟨ds, h0, h1, h2, k _ h3⟩
  run := fun W H x y d e Q t rx ry ⟨ds, h0, h1, h2, h3⟩ => by
    subst h0
    refine ⟨toP d, toPs ds, rx.dp (SeqAt.canLay_of_shaped h1), ?_, h1, ?_, ?_⟩
    · have := ry.dp (SeqAt.canLay_of_shaped h2)
      simpa only [toP] using this
    · have : SeqAt.shaped (toP (.lst ds)) = true := h2
      simpa only [toP] using this
    · rw [toPs_map, List.any_map]
      exact h3 _ H (Same.refl H) (.bl _)
abbrev dIn := dOp gIn
abbrev dNotIn := dOp gNotIn
section
variable {X : Cx} {B : Bd} {wx : WX} {fr : Bool} {pos p p2 : Pos} {a b c e : Expr} {es : List Expr} {f f1 f2 f3 : DE} {k i n : Nat} {fa : DA} {x z : Str}
theorem units65 (hr : Room n X.A) : X.A.units + 65 < cLine := by have := hr.un; omega
theorem pd_in (hr : Room n X.A) (ha : PD X B wx a f1) (hb : PD X B wx b f2) (hm : behindInMarks .In b = false := by rfl) : PD X B wx (.Compare a [.In] [b] pos) (dIn f1 f2) := pd_cmp (op_inD (units65 hr)) od_in ha hb hm
theorem pd_notin (hr : Room n X.A) (ha : PD X B wx a f1) (hb : PD X B wx b f2) (hm : behindInMarks .NotIn b = false := by rfl) : PD X B wx (.Compare a [.NotIn] [b] pos) (dNotIn f1 f2) := pd_cmp (op_notInD (units65 hr)) od_notIn ha hb hm
theorem pt_in (hr : Room n X.A) (ha : PD X B wx a f1) (hb : PD X B wx b f2) (hm : behindInMarks .In b = false := by rfl) : PTD X B wx (.Compare a [.In] [b] pos) (dTest (dIn f1 f2)) := ptd_cmp (op_inD (units65 hr)) od_in ha hb hm
theorem pt_notin (hr : Room n X.A) (ha : PD X B wx a f1) (hb : PD X B wx b f2) (hm : behindInMarks .NotIn b = false := by rfl) : PTD X B wx (.Compare a [.NotIn] [b] pos) (dTest (dNotIn f1 f2)) := ptd_cmp (op_notInD (units65 hr)) od_notIn ha hb hm
/-! ### sum(xs) -/
def gSum : GA := fun ds Q => match ds with
  | [.lst xs] => ∃ ns, intsOf xs = some ns ∧ Q (.int ns.sum)
  | _ => False
theorem cd_sum {K : PySem.W.Frag} : CallD K (rSum K) gSum where
  mono := fun d Q Q' k q => by
    unfold gSum at q ⊢
    split at q
    · obtain ⟨ns, e, q⟩ := q; exact ⟨ns, e, k _ q⟩
    · exact q.elim
  run := fun W H xs ds Q t r q => by
    unfold gSum at q
    split at q
    · obtain ⟨ns, e, q⟩ := q
      cases r with
      | cons r rr =>
        cases rr
        cases r with
        | lst l rs =>
          rw [intsOf_eq e] at rs
          rw [rs.ints] at l
          exact ⟨_, ns, rfl, l.sq, q _ H (Same.refl H) (.int _)⟩
    · exact q.elim
theorem pd_sum (hc : X.calm = true) (hg : Gl X "sum") (hm : X.mg "sum" = none) (ha : PAD X B wx [e] fa) (he : starEach [e] X.env = (false, eval e X.env) :: starEach [] X.env := by rfl) (hpl : (backTo pos (starEach [] X.env)).any (·.1) = false := by rfl) :
    PD X B wx (.Call (.Name "sum" p) [e] [] pos) (dCB gSum fa) := pd_cb (cr_sum hc) cd_sum hg hm (by decide +kernel) ha (by decide) (by decide) he hpl
/-! ### sorted(xs), ints -/
def gSortI : GA := fun ds Q => match ds with
  | [.lst xs] => ∃ ns, intsOf xs = some ns ∧ ∀ ms : List Int, ms.Perm ns → ms.Pairwise (· ≤ ·) → Q (.lst (ms.map .int))
  | _ => False
theorem cf_sortI {K : PySem.W.Frag} : CallF K (rSortedI K) gSortI where
  mono := fun d Q Q' k q => by
    unfold gSortI at q ⊢
    split at q
    · obtain ⟨ns, e, q⟩ := q; exact ⟨ns, e, fun ms a b => k _ (q ms a b)⟩
    · exact q.elim
  run := fun W H xs ds Q t r q => by
    unfold gSortI at q
    split at q
    · obtain ⟨ns, e, q⟩ := q
      cases r with
      | cons r rr =>
        cases rr
        cases r with
        | lst l rs =>
          rw [intsOf_eq e] at rs
          rw [rs.ints] at l
          exact ⟨_, ns, rfl, l.sq, fun ms p h1 h2 hp => q ms h1 h2 p _ (same_new hp) hp ⟨_, upd_same, .ofInts ms⟩⟩
    · exact q.elim
theorem pf_sorted (hg : Gl X "sorted") (hm : X.mg "sorted" = none) (ha : PAD X B wx [e] fa) (he : starEach [e] X.env = (false, eval e X.env) :: starEach [] X.env := by rfl) (hpl : (backTo pos (starEach [] X.env)).any (·.1) = false := by rfl) :
    PF X B wx (.Call (.Name "sorted" p) [e] [] pos) (dCB gSortI fa) := pf_cb cr_sortedI cf_sortI hg hm (by decide +kernel) ha (by decide) (by decide) he hpl
/-! ### changes of an owned list -/
/-- rows.insert(at, e) -/
def dIns (i : Nat) (fj fe : DE) : DS := fun E δ => (∃ d, ownAt δ i = some (.lst d)) ∧ fj δ (fun j δ1 => fe δ1 (fun d δ2 => ∃ ds n, j = .int n ∧ ownAt δ2 i = some (.lst ds) ∧ ds.length < sizeLine ∧ 0 ≤ n ∧ n < 2 ^ 63 ∧ E.nx (putAt δ2 i (.lst (ds.take n.toNat ++ [d] ++ ds.drop n.toNat)))) E.xx) E.xx
theorem psd_insert {apos ep : Pos} (h : PE X (.Name x p) (tVar i)) (ha : PD X B wx a f1) (hb : PD X B wx b f2) (mc : MCall X (.Name x p) "insert" [a, b] apos pos := by exact ⟨rfl, rfl, rfl⟩) (he : starEach [a, b] X.env = (false, eval a X.env) :: starEach [b] X.env := by rfl) (he2 : starEach [b] X.env = (false, eval b X.env) :: starEach [] X.env := by rfl) (hpl : (backTo pos (starEach [b] X.env)).any (·.1) = false := by rfl)
    (hs : swapsWith (.Call (.Attribute (.Name x p) "insert" apos) [a, b] [] pos) none ep.line X.env = pure false := by rfl) : PSD X B wx fr (.Expr (.Call (.Attribute (.Name x p) "insert" apos) [a, b] [] pos) ep) (dIns i f1 f2) := by
  have hr := pe_bm (X := X) (cpos := pos) (apos := apos) PySem.F.plainAttrs_list PySem.F.slot_list_insert PySem.F.type_list_insert mt_insert h (pa_cons ha.run (pa_cons hb.run pa_nil he2) he) mc.1 mc.2.1 mc.2.2 he hpl
  refine ⟨fun E E' δ le h => ⟨h.1, ha.mono _ _ _ _ _ (fun j δ1 h => hb.mono _ _ _ _ _ (fun d δ2 ⟨ds, n, h0, h1, h2, h3, h4, h5⟩ => ⟨ds, n, h0, h1, h2, h3, h4, le.nx _ h5⟩) le.xx h) le.xx h.2⟩, ps_imp (ps_expr hr hs) fun D σ H ⟨W, δ, er, ⟨d0, ho⟩, q⟩ => ?_⟩
  obtain ⟨ad, ea, wa, o0, _⟩ := er.ownAt ho
  have ty0 : ∃ xs, SqL X.K H ad xs := by obtain ⟨xs, hx, _⟩ := o0; exact ⟨xs, SqL.of hx⟩
  refine ⟨.ref ad, ea, .inl ⟨rfl, ty0⟩, W, δ, er, ha.mono _ _ _ _ _ (fun j δ1 h1 v1 H1 W1 s1 er1 r1 => ?_) (fun x δ1 h1 c dd H1 W1 s1 er1 r1 => h1 c dd σ H1 W1 s1 er1 r1) q⟩
  refine ⟨W1, δ1, er1, hb.mono _ _ _ _ _ (fun d δ2 h2 v2 H2 W2 s2 er2 r2 => ?_) (fun x δ2 h2 c dd H2 W2 s2 er2 r2 => h2 c dd σ H2 W2 (s1.trans s2) er2 r2) h1⟩
  obtain ⟨ds, n, rfl, ho2, hl, n0, n1, h2⟩ := h2
  cases r1
  obtain ⟨ad', ea', wa', ⟨xs, hx, rs⟩, _⟩ := er2.ownAt ho2
  rw [ea] at ea'; cases ea'
  refine ⟨ad, xs, n, v2, rfl, rfl, hx, by rw [rs.length]; exact hl, n0, n1, ?_⟩
  have st : Step W2 H2 W2 (upd H2 ad (.lst (xs.take n.toNat ++ [v2] ++ xs.drop n.toNat))) := .write wa' fun zs e => by rw [hx] at e; cases e
  obtain ⟨er3, s3⟩ := er2.write (H' := upd H2 ad (.lst (xs.take n.toNat ++ [v2] ++ xs.drop n.toNat))) (d' := .lst (ds.take n.toNat ++ [d] ++ ds.drop n.toNat)) ho2 ea (fun b o hb n => by rw [upd_ne n]; exact hb)
    ⟨_, upd_same, (((rs.step st).take _).append (.cons (r2.step st) .nil)).append ((rs.step st).drop _)⟩
  exact h2 _ _ _ ((s1.trans s2).trans s3) er3
/-- rows.clear(), rows.reverse(), rows.pop() as statements -/
def dChg (i : Nat) (g : List D → List D) (C : List D → Prop) : DS := fun E δ => ∃ ds, ownAt δ i = some (.lst ds) ∧ C ds ∧ E.nx (putAt δ i (.lst (g ds)))
theorem chg_run {g : List D → List D} {gV : List V → List V} {C : List D → Prop} (hg : ∀ K W H xs ds, Reps K W H xs ds → Reps K W H (gV xs) (g ds)) {D' : Ends} {σ : L2.St} {H : Hp} (h : liftS X.K B wx fr (dChg i g C) D' σ H) :
    ∃ ad xs ds, σ[i]? = some (some (.ref ad)) ∧ H ad = some (.lst xs) ∧ xs.length = ds.length ∧ C ds ∧ D'.nx σ (upd H ad (.lst (gV xs))) := by
  obtain ⟨W, δ, er, ds, ho, hc, q⟩ := h
  obtain ⟨ad, ea, wa, ⟨xs, hx, rs⟩, _⟩ := er.ownAt ho
  have st : Step W H W (upd H ad (.lst (gV xs))) := .write wa fun zs e => by rw [hx] at e; cases e
  obtain ⟨er3, s3⟩ := er.write (H' := upd H ad (.lst (gV xs))) (d' := .lst (g ds)) ho ea (fun b o hb n => by rw [upd_ne n]; exact hb) ⟨_, upd_same, hg _ _ _ _ _ (rs.step st)⟩
  exact ⟨ad, xs, ds, ea, hx, rs.length, hc, q _ _ _ s3 er3⟩
theorem mono_chg {g : List D → List D} {C : List D → Prop} : MonoS (dChg i g C) := fun E E' δ le ⟨ds, h1, h2, h3⟩ => ⟨ds, h1, h2, le.nx _ h3⟩
theorem psd_clear {apos ep : Pos} (h : PE X (.Name x p) (tVar i)) (mc : MCall X (.Name x p) "clear" [] apos pos := by exact ⟨rfl, rfl, rfl⟩)
    (hs : swapsWith (.Call (.Attribute (.Name x p) "clear" apos) [] [] pos) none ep.line X.env = pure false := by rfl) : PSD X B wx fr (.Expr (.Call (.Attribute (.Name x p) "clear" apos) [] [] pos) ep) (dChg i (fun _ => []) fun _ => True) := by
  have hr := pe_bm0 (X := X) (cpos := pos) (apos := apos) PySem.F.plainAttrs_list PySem.F.slot_list_clear PySem.F.type_list_clear mt_clear h mc.1 mc.2.2
  refine ⟨mono_chg, ps_imp (ps_expr hr hs) fun D' σ H h => ?_⟩
  obtain ⟨ad, xs, ds, ea, hx, _, _, q⟩ := chg_run (gV := fun _ => []) (fun _ _ _ _ _ _ => .nil) h
  exact ⟨.ref ad, ea, .inl ⟨rfl, xs, SqL.of hx⟩, ad, xs, rfl, rfl, hx, q⟩
theorem psd_reverse {apos ep : Pos} (h : PE X (.Name x p) (tVar i)) (mc : MCall X (.Name x p) "reverse" [] apos pos := by exact ⟨rfl, rfl, rfl⟩)
    (hs : swapsWith (.Call (.Attribute (.Name x p) "reverse" apos) [] [] pos) none ep.line X.env = pure false := by rfl) : PSD X B wx fr (.Expr (.Call (.Attribute (.Name x p) "reverse" apos) [] [] pos) ep) (dChg i List.reverse fun _ => True) := by
  have hr := pe_bm0 (X := X) (cpos := pos) (apos := apos) PySem.F.plainAttrs_list PySem.F.slot_list_reverse PySem.F.type_list_reverse mt_reverse h mc.1 mc.2.2
  refine ⟨mono_chg, ps_imp (ps_expr hr hs) fun D' σ H h => ?_⟩
  obtain ⟨ad, xs, ds, ea, hx, _, _, q⟩ := chg_run (gV := List.reverse) (fun _ _ _ _ _ r => r.reverse) h
  exact ⟨.ref ad, ea, .inl ⟨rfl, xs, SqL.of hx⟩, ad, xs, rfl, rfl, hx, q⟩
theorem Reps.dropLast {K : PySem.W.Frag} {W : AS} {H : Hp} {vs : List V} {ds : List D} (h : Reps K W H vs ds) : Reps K W H vs.dropLast ds.dropLast := by
  rw [List.dropLast_eq_take, List.dropLast_eq_take, h.length]; exact h.take _
theorem psd_pop {apos ep : Pos} (h : PE X (.Name x p) (tVar i)) (mc : MCall X (.Name x p) "pop" [] apos pos := by exact ⟨rfl, rfl, rfl⟩)
    (hs : swapsWith (.Call (.Attribute (.Name x p) "pop" apos) [] [] pos) none ep.line X.env = pure false := by rfl) : PSD X B wx fr (.Expr (.Call (.Attribute (.Name x p) "pop" apos) [] [] pos) ep) (dChg i List.dropLast fun ds => ds ≠ []) := by
  have hr := pe_bm0 (X := X) (cpos := pos) (apos := apos) PySem.F.plainAttrs_list PySem.F.slot_list_pop PySem.F.type_list_pop mt_pop h mc.1 mc.2.2
  refine ⟨mono_chg, ps_imp (ps_expr hr hs) fun D' σ H h => ?_⟩
  obtain ⟨ad, xs, ds, ea, hx, el, hn, q⟩ := chg_run (gV := List.dropLast) (fun _ _ _ _ _ r => r.dropLast) h
  have hl : xs.length - 1 < xs.length := by
    have : ds.length ≠ 0 := fun e => hn (List.length_eq_zero_iff.mp e)
    omega
  exact ⟨.ref ad, ea, .inl ⟨rfl, xs, SqL.of hx⟩, ad, xs, xs[xs.length - 1], rfl, rfl, hx, by rw [List.getElem?_eq_getElem hl], q⟩
/-- rows.extend(e) -/
def dExt (i : Nat) (f : DE) : DS := fun E δ => (∃ d, ownAt δ i = some (.lst d)) ∧ f δ (fun d δ1 => ∃ ds zs, d = .lst zs ∧ ownAt δ1 i = some (.lst ds) ∧ ds.length + zs.length ≤ sizeLine ∧ E.nx (putAt δ1 i (.lst (ds ++ zs)))) E.xx
theorem psd_extendF {apos ep : Pos} (h : PE X (.Name x p) (tVar i)) (ha : ∀ B, PF X B wx e f) (mc : MCall X (.Name x p) "extend" [e] apos pos := by exact ⟨rfl, rfl, rfl⟩) (he : starEach [e] X.env = (false, eval e X.env) :: starEach [] X.env := by rfl) (hpl : (backTo pos (starEach [] X.env)).any (·.1) = false := by rfl)
    (hs : swapsWith (.Call (.Attribute (.Name x p) "extend" apos) [e] [] pos) none ep.line X.env = pure false := by rfl) : PSD X B wx fr (.Expr (.Call (.Attribute (.Name x p) "extend" apos) [e] [] pos) ep) (dExt i f) := by
  have hr : PE X (.Call (.Attribute (.Name x p) "extend" apos) [e] [] pos) (tBM X.K "list" rExtend (tVar i) (tCons (liftF X.K B wx f) tNil)) :=
    pe_bm PySem.F.plainAttrs_list PySem.F.slot_list_extend PySem.F.type_list_extend mt_extend h (pa_cons (ha B).run pa_nil he) mc.1 mc.2.1 mc.2.2 he hpl
  refine ⟨fun E E' δ le h => ⟨h.1, (ha B).mono _ _ _ _ _ (fun d δ1 ⟨ds, zs, h0, h1, h2, h3⟩ => ⟨ds, zs, h0, h1, h2, le.nx _ h3⟩) le.xx h.2⟩, ps_imp (ps_expr hr hs) fun D σ H ⟨W, δ, er, ⟨d0, ho⟩, q⟩ => ?_⟩
  obtain ⟨ad, ea, wa, o0, _⟩ := er.ownAt ho
  have ty0 : ∃ xs, SqL X.K H ad xs := by obtain ⟨xs, hx, _⟩ := o0; exact ⟨xs, SqL.of hx⟩
  refine ⟨.ref ad, ea, .inl ⟨rfl, ty0⟩, W, δ, er, (ha B).mono _ _ _ _ _ (fun d δ1 h1 bd H1 W1 s1 er1 hn wb ob ns => ?_) (fun x δ1 h1 c dd H1 W1 s1 er1 r1 => h1 c dd σ H1 W1 s1 er1 r1) q⟩
  obtain ⟨ds, zs, rfl, ho1, hl, h1⟩ := h1
  obtain ⟨ad', ea', wa', ⟨xs, hx, rs⟩, _⟩ := er1.ownAt ho1
  rw [ea] at ea'; cases ea'
  obtain ⟨ys, hy, ry⟩ := ob
  refine ⟨ad, bd, xs, ys, rfl, rfl, hx, hy, by rw [rs.length, ry.length]; exact hl, ?_⟩
  have st : Step W1 H1 W1 (upd H1 ad (.lst (xs ++ ys))) := .write wa' fun zs e => by rw [hx] at e; cases e
  obtain ⟨er2, s2⟩ := er1.write (H' := upd H1 ad (.lst (xs ++ ys))) (d' := .lst (ds ++ zs)) ho1 ea (fun b o hb n => by rw [upd_ne n]; exact hb) ⟨_, upd_same, (rs.step st).append (ry.step st)⟩
  exact h1 _ _ _ (s1.trans s2) er2
end
end DL

namespace DL
open PySem PySem.Spec PyProof.Rows L2
section
variable {i : Nat} {f fj fe : DE} {E : DEnds} {δ : DEnv} {P : D → Prop} {d : D} {ds xs : List D} {g : List D → List D} {C : List D → Prop}
theorem q_in : gIn d (.lst ds) P = (shp d = true ∧ shp (.lst ds) = true ∧ P (.bl (ds.any fun z => eqd z d))) := propext ⟨fun ⟨_, e, h⟩ => by cases e; exact h, fun h => ⟨_, rfl, h⟩⟩
theorem q_notin : gNotIn d (.lst ds) P = (shp d = true ∧ shp (.lst ds) = true ∧ P (.bl (!ds.any fun z => eqd z d))) := propext ⟨fun ⟨_, e, h⟩ => by cases e; exact h, fun h => ⟨_, rfl, h⟩⟩
theorem q_sum : gSum [.lst xs] P = ∃ ns, intsOf xs = some ns ∧ P (.int ns.sum) := rfl
theorem q_sortI : gSortI [.lst xs] P = ∃ ns, intsOf xs = some ns ∧ ∀ ms : List Int, ms.Perm ns → ms.Pairwise (· ≤ ·) → P (.lst (ms.map .int)) := rfl
theorem ownLK_ex {p : Prop} : ((∃ d, ownAt δ i = some (.lst d)) ∧ p) = ownLK δ i fun _ => p := propext ⟨fun ⟨⟨d, h⟩, q⟩ => ⟨d, h, q⟩, fun ⟨d, h, q⟩ => ⟨⟨d, h⟩, q⟩⟩
theorem q_ins : dIns i fj fe E δ = ownLK δ i fun _ => fj δ (fun j δ1 => fe δ1 (fun d δ2 => ownLK δ2 i fun ds => ∃ n, j = .int n ∧ ds.length < sizeLine ∧ 0 ≤ n ∧ n < 2 ^ 63 ∧ putK δ2 i (.lst (ds.take n.toNat ++ [d] ++ ds.drop n.toNat)) E.nx) E.xx) E.xx := by
  unfold dIns
  rw [ownLK_ex]
  congr 1
  funext _
  congr 1
  funext j δ1
  congr 1
  funext d δ2
  exact propext ⟨fun ⟨ds, n, h0, h1, h⟩ => ⟨ds, h1, n, h0, h⟩, fun ⟨ds, h1, n, h0, h⟩ => ⟨ds, n, h0, h1, h⟩⟩
theorem q_chg : dChg i g C E δ = ownLK δ i fun ds => C ds ∧ putK δ i (.lst (g ds)) E.nx := rfl
theorem q_ext : dExt i f E δ = ownLK δ i fun _ => f δ (fun d δ1 => ownLK δ1 i fun ds => ∃ zs, d = .lst zs ∧ ds.length + zs.length ≤ sizeLine ∧ putK δ1 i (.lst (ds ++ zs)) E.nx) E.xx := by
  unfold dExt
  rw [ownLK_ex]
  congr 1
  funext _
  congr 1
  funext d δ1
  exact propext ⟨fun ⟨ds, zs, h0, h1, h⟩ => ⟨ds, h1, zs, h0, h⟩, fun ⟨ds, h1, zs, h0, h⟩ => ⟨ds, zs, h0, h1, h⟩⟩
end
end DL

namespace DL
open PySem PySem.Spec PyProof.Rows L2

/-! ### an owned list, looked at without giving it away -/
section
variable {X : Cx} {B : Bd} {wx : WX} {fr : Bool} {pos p : Pos} {a b c e : Expr} {es : List Expr} {f f1 f2 f3 : DE} {k i : Nat} {fa : DA} {x : Str} {id : String}
theorem Reps.dp {K : PySem.W.Frag} {W : AS} {H : Hp} : ∀ {vs : List V} {ds : List D}, Reps K W H vs ds → PyData.canLayAll0 (toPs ds) = true → DpAll K H vs (toPs ds)
  | _, _, .nil, _ => by simp only [toPs]; exact .nil
  | _, _, .cons r rs, c => by
    simp only [toPs, PyData.canLayAll0, Bool.and_eq_true] at c ⊢
    exact .cons (r.dp c.1) (Reps.dp rs c.2)
theorem Own.dp {K : PySem.W.Frag} {W : AS} {H : Hp} {a : Addr} {d : D} (h : Own K W H a d) (c : (toP d).canLay0 = true) : Dp K H (.ref a) (toP d) := by
  cases d with
  | lst ds =>
    obtain ⟨xs, hx, rs⟩ := h
    simp only [toP] at c ⊢
    exact .lst (SqL.of hx) (rs.dp (by simpa [PyData.canLay0] using c))
  | dct _ => simp [toP, PyData.canLay0] at c
  | dtt _ => simp [toP, PyData.canLay0] at c
  | _ => exact h.elim
/-- an operation whose first is a name -/
def dNOp (g : G2) (i : Nat) (fe : DE) : DE := fun δ Q E => (∃ d, rdAt δ i = some d) ∧ fe δ (fun y δ1 => ∃ d, rdAt δ1 i = some d ∧ g d y fun z => Q z δ1) E
theorem mono_nop {g : G2} (m : Mono f1) (mg : ∀ d e (Q Q' : D → Prop), (∀ z, Q z → Q' z) → g d e Q → g d e Q') : Mono (dNOp g i f1) := fun δ Q Q' E E' k ke h =>
  ⟨h.1, m _ _ _ _ _ (fun j δ1 ⟨d, h1, h2⟩ => ⟨d, h1, mg _ _ _ _ (fun z h => k _ _ h) h2⟩) ke h.2⟩
theorem nop_run {K : PySem.W.Frag} {g : G2} {r : R2} (hd : OpD K r g) (ho : ∀ W H a y d e Q, (∀ a, W a → ∃ o, H a = some o) → Own K W H a d → Rep K W H y e → g d e (Gw K W H Q) → r (.ref a) y H Q) (m1 : Mono f1) (σ : L2.St) (H : Hp) (Q : VK) (h : liftE K B wx (dNOp g i f1) σ H Q) : tOp r (tVar i) (liftE K B wx f1) σ H Q := by
  obtain ⟨W, δ, er, ⟨d, hr⟩, q⟩ := h
  obtain ⟨v, ev, _⟩ := er.rd hr
  refine ⟨v, ev, W, δ, er, m1 _ _ _ _ _ (fun j δ1 h1 => ?_) (fun _ _ z => z) q⟩
  obtain ⟨d1, h1, h2⟩ := h1
  intro v1 H1 W1 s1 er1 r1
  obtain ⟨v', ev', hv⟩ := er1.rd h1
  rw [ev] at ev'; cases ev'
  have h3 := hd.mono _ _ _ _ (fun z hz v H3 sm rz => hz v H3 W1 (s1.trans (.same sm)) (er1.grow sm) rz) h2
  rcases hv with r | ⟨a, rfl, o⟩
  · exact hd.run W1 H1 v v1 d1 j Q er1.trk r r1 h3
  · exact ho W1 H1 a v1 d1 j Q er1.trk o r1 h3
theorem own_eq {K : PySem.W.Frag} : ∀ W H a y d e Q, (∀ a, W a → ∃ o, H a = some o) → Own K W H a d → Rep K W H y e → gEq d e (Gw K W H Q) → rEqD K (.ref a) y H Q :=
  fun W H a y d e Q t rx ry q => ⟨toP d, toP e, rx.dp (SeqAt.canLay_of_shaped q.1), ry.dp (SeqAt.canLay_of_shaped q.2.1), q.1, q.2.1, q.2.2 _ H (Same.refl H) (.bl _)⟩
theorem own_ne {K : PySem.W.Frag} : ∀ W H a y d e Q, (∀ a, W a → ∃ o, H a = some o) → Own K W H a d → Rep K W H y e → gNe d e (Gw K W H Q) → rNeD K (.ref a) y H Q :=
  fun W H a y d e Q t rx ry q => ⟨toP d, toP e, rx.dp (SeqAt.canLay_of_shaped q.1), ry.dp (SeqAt.canLay_of_shaped q.2.1), q.1, q.2.1, q.2.2 _ H (Same.refl H) (.bl _)⟩
theorem pd_neq (hr : Room k X.A) (h : PE X (.Name x p) (tVar i)) (hb : PD X B wx b f2) : PD X B wx (.Compare (.Name x p) [.Eq] [b] pos) (dNOp gEq i f2) :=
  ⟨mono_nop hb.mono (od_eq (K := X.K)).mono, pe_imp (pe_cmpR (op_eqD hr.units) h hb.run (nomark _)) (nop_run od_eq own_eq hb.mono)⟩
theorem pd_nne (hr : Room k X.A) (h : PE X (.Name x p) (tVar i)) (hb : PD X B wx b f2) : PD X B wx (.Compare (.Name x p) [.NotEq] [b] pos) (dNOp gNe i f2) :=
  ⟨mono_nop hb.mono (od_ne (K := X.K)).mono, pe_imp (pe_cmpR (op_neD hr.units) h hb.run (nomark _)) (nop_run od_ne own_ne hb.mono)⟩
theorem pt_neq (hr : Room k X.A) (h : PE X (.Name x p) (tVar i)) (hb : PD X B wx b f2) : PTD X B wx (.Compare (.Name x p) [.Eq] [b] pos) (dTest (dNOp gEq i f2)) := by
  have m := mono_nop (i := i) hb.mono (od_eq (K := X.K)).mono
  refine ⟨mono_test m, pt_imp (pt_cmpR (op_eqD hr.units) h hb.run (nomark _)) fun σ H Q h => ?_⟩
  exact nop_run od_eq own_eq hb.mono σ H _ (test_run m σ H Q h)
theorem pt_nne (hr : Room k X.A) (h : PE X (.Name x p) (tVar i)) (hb : PD X B wx b f2) : PTD X B wx (.Compare (.Name x p) [.NotEq] [b] pos) (dTest (dNOp gNe i f2)) := by
  have m := mono_nop (i := i) hb.mono (od_ne (K := X.K)).mono
  refine ⟨mono_test m, pt_imp (pt_cmpR (op_neD hr.units) h hb.run (nomark _)) fun σ H Q h => ?_⟩
  exact nop_run od_ne own_ne hb.mono σ H _ (test_run m σ H Q h)
/-- isinstance(name, type) -/
def dNIsi (T : String) (i : Nat) : DE := fun δ Q E => ∃ d, rdAt δ i = some d ∧ gIsi T d fun z => Q z δ
theorem Own.ty {K : PySem.W.Frag} {W : AS} {H : Hp} {a : Addr} {d : D} (h : Own K W H a d) : TyX K H (.ref a) (.type (tyD d)) := by
  cases d with
  | lst ds => obtain ⟨xs, hx, _⟩ := h; exact .base (.lst hx)
  | dct _ => obtain ⟨xs, hx, _⟩ := h; exact .base (.dK hx)
  | dtt _ => obtain ⟨xs, hx, _⟩ := h; exact .base (.dT hx)
  | _ => exact h.elim
theorem pd_nisi {T : String} {y : Str} {p2 p3 : Pos} (hg : Gl X "isinstance") (hm : X.mg "isinstance" = none) (h : PE X (.Name x p3) (tVar i)) (hgT : Gl X y) (hmT : X.mg y = none) (hvT : bootBuiltins y = some (.type T))
    (hs1 : starEach [.Name x p3, .Name y p2] X.env = (false, eval (.Name x p3) X.env) :: starEach [.Name y p2] X.env := by rfl) (hs2 : starEach [.Name y p2] X.env = (false, eval (.Name y p2) X.env) :: starEach [] X.env := by rfl)
    (hpl : (backTo pos (starEach [.Name y p2] X.env)).any (·.1) = false := by rfl) (hn : y ≠ "__name__" := by decide) (hdb : (y == ("__debug__" : Str)) = false := by decide) :
    PD X B wx (.Call (.Name "isinstance" p) [.Name x p3, .Name y p2] [] pos) (dNIsi T i) := by
  refine ⟨fun δ Q Q' E E' k ke ⟨d, h1, ne, b, e, q⟩ => ⟨d, h1, ne, b, e, k _ _ q⟩, pe_imp (pe_callB call_isi hg hm (by decide +kernel) (pa_cons h (pa_cons (pe_bltn (v := .ty T) hgT hmT hvT rfl hn hdb) pa_nil hs2) hs1) (by decide) (by decide) hs1 hpl) fun σ H Q ⟨W, δ, er, d, ho, ne, k, e, q⟩ => ?_⟩
  obtain ⟨v, ev, hv⟩ := er.rd ho
  refine ⟨v, ev, ?_⟩
  have ty : TyX X.K H v (.type (tyD d)) := by
    rcases hv with r | ⟨a, rfl, o⟩
    · exact r.ty ne
    · exact o.ty
  exact ⟨v, _, _, _, k, rfl, .ty T, ty, kit_ty e, q _ _ _ .refl er (.bl _)⟩
/-- a module's own int -/
theorem pd_glI {j : Int} (hg : Gl X x) (h : ∃ t, X.mg x = some (.int j t)) (hd : (x == ("__debug__" : Str)) = false := by decide) : PD X B wx (.Name x p) (dC (.int j)) := by
  obtain ⟨t, h⟩ := h
  exact pd_c (pe_glob (v := .int j) hg h ⟨t, rfl⟩ hd) fun _ _ => .int _
theorem q_nop {g : G2} {fe : DE} {δ : DEnv} {Q : D → DEnv → Prop} {X : XC} : dNOp g i fe δ Q X = rdK δ i fun _ => fe δ (fun y δ1 => rdK δ1 i fun d => g d y fun z => Q z δ1) X := by
  apply propext
  unfold dNOp rdK
  constructor
  · rintro ⟨⟨d, h⟩, q⟩; exact ⟨d, h, q⟩
  · rintro ⟨d, h, q⟩; exact ⟨⟨d, h⟩, q⟩
theorem q_nisi {T : String} {δ : DEnv} {Q : D → DEnv → Prop} {X : XC} : dNIsi T i δ Q X = rdK δ i fun d => gIsi T d fun z => Q z δ := rfl
end
end DL

namespace DL
open PySem PySem.Spec PyProof.Rows L2

/-! ### len(set(a list of tuples of ints)) -/
def tLenSetT (K : PySem.W.Frag) (ta : TE) : TE := fun σ H Q => ta σ H fun x H1 => ∃ (l : Addr) (ks : List (Addr × List Int)), x = V.ref l ∧ SqL K H1 l (ks.map fun p => V.ref p.1) ∧ (∀ p ∈ ks, SqT K H1 p.1 (p.2.map V.int)) ∧ ks.length < 64 ∧
  ∀ m : List (List Int), m.Nodup → (∀ x, x ∈ m ↔ x ∈ ks.map (·.2)) → Q (.int m.length) H1
theorem pe_lenSetT {X : Cx} {a : Expr} {ta : TE} {p p2 q pos : Pos} (hg : Gl X "len") (hm : X.mg "len" = none) (hg2 : Gl X "set") (hm2 : X.mg "set" = none) (hu : X.A.units + 64 < cLine) (ha : PE X a ta) (hc : X.calm = true := by rfl)
    (na : starEach [a] X.env = (false, eval a X.env) :: starEach [] X.env := by rfl) : PE X (.Call (.Name "len" p) [.Call (.Name "set" p2) [a] [] q] [] pos) (tLenSetT X.K ta) := by
  refine ⟨fun pins s σ H Q I h => ?_⟩
  refine Call_ (ld_blt I hg hm boot_len ?_)
  refine PyProof.Rows.callWith_builtin1 (PyProof.Rows.args_cons ?_ rfl) rfl rfl
  refine Call_ (ld_blt I hg2 hm2 boot_set ?_)
  refine PyProof.Rows.callWith_type1 (PyProof.Rows.args_cons (thn (ha.run pins s σ H _ I h) fun v s1 ⟨x, H1, I1, r1, q1⟩ => PyProof.Rows.args_nil ?_) na) na rfl
  obtain ⟨l, ks, rfl, hq, hk, hl, q1⟩ := q1
  cases r1
  obtain ⟨its, r, pl, hz⟩ := I1.list hq
  refine call_set_tups (P := X.prog) (w := X.w) ks (I1.ok.hd hc) pl.isList (by simpa using refs_of_vals r) (fun p hp => I1.isT (hk p hp)) hl (by omega) fun h' tk L es ep t R g hkk => ?_
  refine PyProof.Rows.args_nil ?_
  obtain ⟨o, ho, hex, hd⟩ := R.ob
  have I2 : Inv X pins σ H1 { s1 with heap := h', toks := tk } := I1.kept fun b o e => hkk b o e
  have hs := R.size (s := { s1 with heap := h', toks := tk })
  have hf := R.fits (s := { s1 with heap := h', toks := tk })
  have hw := R.few
  refine call_len_set ho hex hd hf (by rw [hs]; omega) ⟨.int (L.map (·.2)).length, H1, I2.tok _, ⟨_, by rw [hs, List.length_map]⟩, q1 _ R.nd fun x => ?_⟩
  constructor
  · intro hx
    obtain ⟨p, hp, rfl⟩ := List.mem_map.mp hx
    exact List.mem_map_of_mem (f := fun p : Addr × List Int => p.2) (List.mem_of_mem_take (g.sub p hp))
  · intro hx
    obtain ⟨p, hp, rfl⟩ := List.mem_map.mp hx
    exact g.all p (by rw [List.take_length]; exact hp)
abbrev tI (k : List Int) : D := .tup (k.map .int)
theorem Reps.intsT {K : PySem.W.Frag} {W : AS} {H : Hp} : ∀ {vs : List V} {k : List Int}, Reps K W H vs (k.map .int) → vs = k.map V.int
  | _, [], .nil => rfl
  | _, n :: k, .cons r rs => by
    cases r
    rw [Reps.intsT rs]; rfl
theorem Reps.tis {K : PySem.W.Frag} {W : AS} {H : Hp} : ∀ {vs : List V} {kss : List (List Int)}, Reps K W H vs (kss.map tI) → ∃ ks : List (Addr × List Int), vs = (ks.map fun p => V.ref p.1) ∧ ks.map (·.2) = kss ∧ ∀ p ∈ ks, SqT K H p.1 (p.2.map V.int)
  | _, [], .nil => ⟨[], rfl, rfl, by simp⟩
  | _, k :: kss, .cons r rs => by
    obtain ⟨ks, rfl, rfl, h⟩ := Reps.tis rs
    cases r with
    | tup l r =>
      rename_i a xs
      have e := r.intsT
      subst e
      refine ⟨(a, k) :: ks, rfl, rfl, fun p hp => ?_⟩
      rcases List.mem_cons.mp hp with e | e
      · subst e; exact l.sq
      · exact h p e
section
variable {X : Cx} {B : Bd} {wx : WX} {fr : Bool} {pos p p2 q : Pos} {a b c e : Expr} {es : List Expr} {f f1 f2 f3 : DE} {k i : Nat} {fa : DA} {x : Str} {id : String}
def lsK (d : D) (kk : D → Prop) : Prop := ∃ kss : List (List Int), d = .lst (kss.map tI) ∧ kss.length < 64 ∧ ∀ m : List (List Int), m.Nodup → (∀ x, x ∈ m ↔ x ∈ kss) → kk (.int m.length)
def dLenSet (f : DE) : DE := fun δ Q E => f δ (fun d δ1 => lsK d fun z => Q z δ1) E
theorem pd_lenSet (hg : Gl X "len") (hm : X.mg "len" = none) (hg2 : Gl X "set") (hm2 : X.mg "set" = none) (hr : Room k X.A) (ha : PD X B wx a f1) (hc : X.calm = true := by rfl)
    (na : starEach [a] X.env = (false, eval a X.env) :: starEach [] X.env := by rfl) : PD X B wx (.Call (.Name "len" p) [.Call (.Name "set" p2) [a] [] q] [] pos) (dLenSet f1) := by
  refine ⟨fun δ Q Q' E E' k ke h => ha.mono _ _ _ _ _ (fun d δ1 ⟨kss, e, h1, h2⟩ => ⟨kss, e, h1, fun m a b => k _ _ (h2 m a b)⟩) ke h, pe_imp (pe_lenSetT hg hm hg2 hm2 (by have := hr.un; omega) ha.run hc na) fun σ H Q ⟨W, δ, er, q⟩ => ?_⟩
  refine ⟨W, δ, er, ha.mono _ _ _ _ _ (fun d δ1 h1 => ?_) (fun _ _ z => z) q⟩
  intro v1 H1 W1 s1 er1 r1
  obtain ⟨kss, rfl, h2, h3⟩ := h1
  cases r1 with
  | lst l r =>
    obtain ⟨ks, rfl, rfl, h4⟩ := r.tis
    refine ⟨_, ks, rfl, l.sq, h4, by rwa [List.length_map] at h2, fun m a b => h3 m a b _ _ _ s1 er1 (.int _)⟩
theorem q_lenSet {δ : DEnv} {Q : D → DEnv → Prop} {X : XC} : dLenSet f δ Q X = f δ (fun d δ1 => lsK d fun z => Q z δ1) X := rfl
end
end DL

namespace DL
open PySem PySem.Spec PyProof.Rows L2

/-! ### list(NAME), NAME a module's tuple of ints -/
section
variable {X : Cx} {B : Bd} {wx : WX} {fr : Bool} {pos p p2 q : Pos} {a b c e : Expr} {es : List Expr} {f f1 f2 f3 : DE} {k i : Nat} {fa : DA} {x : Str} {id : String}
def dLsG (ns : List Int) : DE := fun δ Q _ => Q (.lst (ns.map .int)) δ
theorem reps_ints {K : PySem.W.Frag} {W : AS} {H : Hp} : ∀ (ns : List Int), Reps K W H (ns.map V.int) (ns.map D.int)
  | [] => .nil
  | n :: ns => .cons (.int n) (reps_ints ns)
theorem dv_ints {K : PySem.W.Frag} (ns : List Int) : (ns.map He.Dv.int).map (He.Dv.v K) = ns.map V.int := by rw [List.map_map]; rfl
theorem pf_listG {ns : List Int} (hg : Gl X "list") (hm : X.mg "list" = none) (hgx : Gl X x) (hx : X.mg x = some (.ref (He.ga X.K x))) (ht : He.tupB X.K x (ns.map .int) = true) (hd : (x == ("__debug__" : Str)) = false := by decide)
    (he : starEach [.Name x p2] X.env = (false, eval (.Name x p2) X.env) :: starEach [] X.env := by rfl) (hpl : (backTo pos (starEach [] X.env)).any (·.1) = false := by rfl) : PF X B wx (.Call (.Name "list" p) [.Name x p2] [] pos) (dLsG ns) := by
  refine ⟨fun δ Q Q' E E' k ke h => k _ _ h, pe_imp (pe_callTy call_list_of hg hm (by decide +kernel) (pa_cons (pe_glob (v := .ref (He.ga X.K x)) hgx hx rfl hd) pa_nil he) (by decide) (by decide) he hpl) fun σ H Q ⟨W, δ, er, q⟩ => ?_⟩
  have sq := He.tupB_ok ht H
  rw [dv_ints] at sq
  refine ⟨_, _, rfl, .inr sq, fun l hl => ?_⟩
  obtain ⟨er2, ns'⟩ := er.alloc (same_new hl) hl ⟨_, upd_same⟩
  exact q l _ _ (.alloc (same_new hl) hl) er2 hl (.inr rfl) ⟨_, upd_same, reps_ints _⟩ ns'
theorem q_lsG {ns : List Int} {δ : DEnv} {Q : D → DEnv → Prop} {X : XC} : dLsG ns δ Q X = Q (.lst (ns.map .int)) δ := rfl
end
end DL

namespace DL
open PySem PySem.Spec PyProof.Rows L2

/-! ### max and min of a tuple of ints -/
section
variable {prog : Program} {w : World} {A : Around} {E : Value → Shared → Prop} {s : Shared} {l : Addr} {xs : Array (Int × Tok)} {its : List Value} {ns : List Int} {Q : Value → Shared → Prop}
theorem iter_intTup (hl : s.heap.IsTuple l (intItems xs))
    (h : ∀ s₂ : Shared, s₂ = { s with heap := s.heap.push { cls := .type "tuple_iterator", data := .fields #[.ref l, .int 0 0] } } →
      (s₂.heap.IsTupleIter s.heap.objs.size l 0 ∧ s₂.heap.IsTuple l (intItems xs)) → (∀ b ∈ [s.heap.objs.size, l], b < s₂.heap.objs.size) → l ≠ s.heap.objs.size → Q (.ref s.heap.objs.size) s₂) :
    wpAny (model prog w) A (pyIter (.ref l)) Q E s := by
  have hlt : l < s.heap.objs.size := by obtain ⟨_, e, _⟩ := hl; exact Heap.lt_size e
  refine wpAny_pyIter_tuple hl (h _ rfl ⟨⟨_, Heap.get?_push_size _ rfl, rfl, rfl⟩, hl.push _⟩ (fun b hb => ?_) (Nat.ne_of_lt hlt))
  show b < (s.heap.push _).objs.size
  rw [Heap.size_push]
  rcases List.mem_cons.mp hb with rfl | hb
  · exact Nat.lt_succ_self _
  · rcases List.mem_cons.mp hb with rfl | hb
    · exact Nat.lt_succ_of_lt hlt
    · cases hb
theorem old_keptT {h' : Heap} (hk : ∀ b o, b ∉ [s.heap.objs.size] → (s.heap.push { cls := .type "tuple_iterator", data := .fields #[.ref l, .int 0 0] }).get? b = some o → h'.get? b = some o) :
    ∀ b o, s.heap.get? b = some o → h'.get? b = some o := fun b o e => by
  refine hk b o (fun hm => ?_) (Heap.get?_push_of_some _ e)
  rcases List.mem_cons.mp hm with e1 | hm
  · exact absurd (e1 ▸ Heap.lt_size e) (Nat.lt_irrefl _)
  · cases hm
theorem maxT_raw (hh : A.handled = none) (hl : s.heap.IsTuple l its.toArray) (hi : IntsAre its ns) (hne : 0 < ns.length)
    (h : ∀ h' tk M t', (∀ b o, s.heap.get? b = some o → h'.get? b = some o) → M ∈ ns → (∀ a, a ∈ ns → a ≤ M) → Q (.int M t') { s with heap := h', toks := tk }) : wpAny (model prog w) A (call (.builtin "max") [.ref l]) Q E s := by
  obtain ⟨xs, e⟩ := hi.allInts.items
  have hn : numsOf (intItems xs).toList = ns := by rw [← e]; exact hi.numsOf
  rw [nums_intItems] at hn
  subst hn
  rw [e] at hl
  have hsz : 0 < xs.size := by simpa using hne
  refine call_max_walk (iter_intTup hl fun s₂ e st hfp hlI => ?_)
  subst e
  refine ⟨_, _, _, _, _, _, _, rfl, Walks.tuple (A := A.in1) hh _ l hlI (intItems xs), st, hfp, by simpa [intItems] using hsz, CmpOf.ints_gt (numAt xs) (fun _ _ => intItems_at), fun v h' tk hP hk => ?_⟩
  have hv : (intItems xs)[argBest (fun i j => decide (numAt xs i > numAt xs j)) (xs.size - 1)]? = some v := by simpa [intItems] using hP
  obtain ⟨t, rfl⟩ := intItems_at hv
  obtain ⟨h1, h2⟩ := argBest_gt (numAt xs) (xs.size - 1)
  refine h h' tk _ t (old_keptT hk) ?_ fun a ha => ?_
  · rw [numAt_eq]; exact PySem.getD_mem (by rw [List.length_map, Array.length_toList]; omega)
  · obtain ⟨j, hj, rfl⟩ := mem_getD ha
    rw [List.length_map, Array.length_toList] at hj
    rw [← numAt_eq]; exact h2 j (by omega)
def rMaxT (K : PySem.W.Frag) : List V → Hp → VK → Prop := fun vs H Q => ∃ (a : Addr) (ns : List Int), vs = [V.ref a] ∧ SqT K H a (ns.map V.int) ∧ 0 < ns.length ∧ ∀ m, m ∈ ns → (∀ y, y ∈ ns → y ≤ m) → Q (.int m) H
theorem cr_maxT {X : Cx} (hc : X.calm = true) : CallR X (.builtin "max") (rMaxT X.K) := by
  intro pins s σ H vs us Q I r h
  obtain ⟨a, ns, rfl, hs, hne, q⟩ := h
  obtain ⟨its, rv, hl, _⟩ := I.tuple hs
  rw [Vals.ref1 r]
  exact maxT_raw (I.ok.hd hc) hl rv.ints hne fun h' tk m t' hk h1 h2 => ⟨.int _, H, I.kept hk, ⟨_, rfl⟩, q m h1 h2⟩
end
section
variable {X : Cx} {B : Bd} {wx : WX} {fr : Bool} {pos p p2 q : Pos} {a b c e : Expr} {es : List Expr} {f f1 f2 f3 : DE} {k i : Nat} {fa : DA} {x : Str} {id : String}
def gExtT (le : Int → Int → Prop) : GA := fun ds Q => match ds with
  | [.tup xs] => ∃ ns, intsOf xs = some ns ∧ 0 < ns.length ∧ ∀ m, m ∈ ns → (∀ y, y ∈ ns → le y m) → Q (.int m)
  | _ => False
theorem cd_extT {K : PySem.W.Frag} {le : Int → Int → Prop} {r : List V → Hp → VK → Prop} (hr : ∀ H Q (a : Addr) (ns : List Int), SqT K H a (ns.map V.int) → 0 < ns.length → (∀ m, m ∈ ns → (∀ y, y ∈ ns → le y m) → Q (.int m) H) → r [.ref a] H Q) : CallD K r (gExtT le) where
  mono := fun d Q Q' k q => by
    unfold gExtT at q ⊢
    split at q
    · obtain ⟨bs, e, l, q⟩ := q; exact ⟨bs, e, l, fun m h1 h2 => k _ (q m h1 h2)⟩
    · exact q.elim
  run := fun W H xs ds Q t r q => by
    unfold gExtT at q
    split at q
    · obtain ⟨bs, e, l0, q⟩ := q
      cases r with
      | cons r rr =>
        cases rr
        cases r with
        | tup l rs =>
          rw [intsOf_eq e] at rs
          rw [rs.ints] at l
          exact hr H Q _ bs l.sq l0 fun m h1 h2 => q m h1 h2 _ H (Same.refl H) (.int _)
    · exact q.elim
abbrev gMaxT : GA := gExtT fun y m => y ≤ m
theorem q_maxT3 {a b c : Int} {Q : D → Prop} : gMaxT [.tup [.int a, .int b, .int c]] Q = ∀ m, m = a ∨ m = b ∨ m = c → a ≤ m → b ≤ m → c ≤ m → Q (.int m) := by
  apply propext
  constructor
  · rintro ⟨ns, e, _, h⟩ m hm h1 h2 h3
    simp only [intsOf, Option.some.injEq, Option.map_some] at e
    subst e
    exact h m (by simpa using hm) fun y hy => by
      simp only [List.mem_cons, List.not_mem_nil, or_false] at hy
      rcases hy with rfl | rfl | rfl <;> assumption
  · intro h
    exact ⟨[a, b, c], rfl, by simp, fun m hm hy => h m (by simpa using hm) (hy _ (by simp)) (hy _ (by simp)) (hy _ (by simp))⟩
theorem pd_maxT (hc : X.calm = true) (hg : Gl X "max") (hm : X.mg "max" = none) (ha : PAD X B wx [e] fa) (he : starEach [e] X.env = (false, eval e X.env) :: starEach [] X.env := by rfl) (hpl : (backTo pos (starEach [] X.env)).any (·.1) = false := by rfl) :
    PD X B wx (.Call (.Name "max" p) [e] [] pos) (dCB gMaxT fa) := pd_cb (cr_maxT hc) (cd_extT fun H Q a bs l l0 q => ⟨a, bs, rfl, l, l0, q⟩) hg hm (by decide +kernel) ha (by decide) (by decide) he hpl
/-- max(name), a list of ints -/
def dNMax (i : Nat) : DE := fun δ Q E => ∃ d, rdAt δ i = some d ∧ gExt (fun y m => y ≤ m) [d] fun z => Q z δ
theorem pd_nmax (hc : X.calm = true) (hg : Gl X "max") (hm : X.mg "max" = none) (h : PE X (.Name x p) (tVar i)) (he : starEach [.Name x p] X.env = (false, eval (.Name x p) X.env) :: starEach [] X.env := by rfl) (hpl : (backTo pos (starEach [] X.env)).any (·.1) = false := by rfl) :
    PD X B wx (.Call (.Name "max" p2) [.Name x p] [] pos) (dNMax i) := by
  have cd : CallD X.K (rMax X.K) (gExt fun y m => y ≤ m) := cd_ext fun H Q a bs l l0 q => ⟨a, bs, rfl, l, l0, q⟩
  refine ⟨fun δ Q Q' E E' k ke ⟨d, h1, h2⟩ => ⟨d, h1, cd.mono _ _ _ (fun z h => k _ _ h) h2⟩, pe_imp (pe_callB (cr_max hc) hg hm (by decide +kernel) (pa_cons h pa_nil he) (by decide) (by decide) he hpl) fun σ H Q ⟨W, δ, er, d, ho, q⟩ => ?_⟩
  obtain ⟨v, ev, hv⟩ := er.rd ho
  refine ⟨v, ev, ?_⟩
  rcases hv with r | ⟨a, rfl, o⟩
  · exact cd.run W H [v] [d] Q er.trk (.cons r .nil) (cd.mono _ _ _ (fun z hz v H3 sm rz => hz v H3 W (.same sm) (er.grow sm) rz) q)
  · unfold gExt at q
    split at q
    · rename_i hd
      cases hd
      obtain ⟨ns, e, l0, q⟩ := q
      obtain ⟨xs, hx, rs⟩ := o
      rw [intsOf_eq e] at rs
      rw [rs.ints] at hx
      exact ⟨a, ns, rfl, SqL.of hx, l0, fun m h1 h2 => q m h1 h2 _ H W .refl er (.int _)⟩
    · exact q.elim
theorem q_nmax {i : Nat} {δ : DEnv} {Q : D → DEnv → Prop} {X : XC} : dNMax i δ Q X = rdK δ i fun d => gExt (fun y m => y ≤ m) [d] fun z => Q z δ := rfl
end
end DL

namespace DL
open PySem PySem.Spec PyProof.Rows L2

/-! ### zip of two lists -/
section
variable {X : Cx} {B : Bd} {wx : WX} {fr : Bool} {pos p tpos : Pos} {a b c e : Expr} {es elts : List Expr} {f f1 f2 f3 : DE} {k i kk : Nat} {fa : DA} {x : Str} {id : String}
def zipD : List D → List D → List D
  | a :: as, b :: bs => .tup [a, b] :: zipD as bs
  | _, _ => []
theorem zipD_len : ∀ (as bs : List D), (zipD as bs).length = min as.length bs.length
  | [], _ => by simp [zipD]
  | _ :: _, [] => by simp [zipD]
  | _ :: as, _ :: bs => by simp only [zipD, List.length_cons, zipD_len as bs]; omega
theorem zipD_get : ∀ (as bs : List D) (i : Nat) (a b : D), as[i]? = some a → bs[i]? = some b → (zipD as bs)[i]? = some (.tup [a, b])
  | [], _, _, _, _, h, _ => by simp at h
  | _ :: _, [], _, _, _, _, h => by simp at h
  | x :: as, y :: bs, 0, a, b, h1, h2 => by simp at h1 h2; subst h1 h2; rfl
  | x :: as, y :: bs, i + 1, a, b, h1, h2 => by simp only [zipD, List.getElem?_cons_succ] at h1 h2 ⊢; exact zipD_get as bs i a b h1 h2
theorem it_zip {K : PySem.W.Frag} {W : AS} {H : Hp} {ad bd : Addr} {xs ys : List V} {ds es : List D} (l : LW K W H ad xs) (r : Reps K W H xs ds) (l2 : LW K W H bd ys) (r2 : Reps K W H ys es) : ItOk K W H (Itz K ad bd) (zipD ds es) where
  go := fun i H' W' s hi => by
    rw [zipD_len] at hi
    obtain ⟨v, e, _⟩ := r.get (List.getElem?_eq_getElem (show i < ds.length by omega))
    obtain ⟨v2, e2, _⟩ := r2.get (List.getElem?_eq_getElem (show i < es.length by omega))
    exact ⟨xs, ys, v, v2, (l.step s).sq, (l2.step s).sq, e, e2⟩
  yld := fun i H' W' x H2 s t ⟨T, u, v, e, hT, e2, h1, h2⟩ hi => by
    subst e e2
    obtain ⟨d, e, rd⟩ := (r.step s).getV (h1 xs (l.step s).sq)
    obtain ⟨d2, e2, rd2⟩ := (r2.step s).getV (h2 ys (l2.step s).sq)
    have sm : Same H' (upd H' T (.tup [u, v])) := same_new hT
    exact ⟨sm, _, zipD_get _ _ _ _ _ e e2, .tup (show upd H' T (.tup [u, v]) T = _ from upd_same) (.cons (rd.step (.same sm)) (.cons (rd2.step (.same sm)) .nil))⟩
  stop := fun i H' W' s hi => by
    rw [zipD_len] at hi
    refine ⟨xs, ys, (l.step s).sq, (l2.step s).sq, ?_⟩
    rw [r.length, r2.length]; omega
def iZip (fa : DA) : DI := fun δ Q E => fa δ (fun ds δ1 => ∃ as bs, ds = [.lst as, .lst bs] ∧ Q (zipD as bs) δ1) E
theorem pid_zip (hg : Gl X "zip") (hm : X.mg "zip" = none) (ha : PAD X B wx [a, b] fa) (hs : starEach [a, b] X.env = (false, eval a X.env) :: starEach [b] X.env := by rfl) (hpl : (backTo pos (starEach [b] X.env)).any (·.1) = false := by rfl) :
    PID X B wx (.Tuple elts kk tpos) (.Call (.Name "zip" p) [a, b] [] pos) (iZip fa) := by
  refine ⟨fun δ Q Q' E E' k ke h' => ha.mono _ _ _ _ _ (fun d δ1 ⟨as, bs, e, h⟩ => ⟨as, bs, e, k _ _ h⟩) ke h', pi_imp (RZ.pi_zipA hg hm ha.run hs hpl) fun σ H R ⟨W, δ, er, q⟩ => ?_⟩
  refine ⟨W, δ, er, ha.mono _ _ _ _ _ (fun d δ1 h1 v H1 W1 s1 er1 r1 => ?_) (fun _ _ z => z) q⟩
  obtain ⟨as, bs, rfl, h1⟩ := h1
  cases r1 with
  | cons r rr =>
    cases rr with
    | cons r2 rr =>
      cases rr
      cases r with
      | lst l rs =>
        cases r2 with
        | lst l2 rs2 => exact ⟨_, _, _, _, rfl, .inl ⟨l.sq, l2.sq, h1 _ _ _ s1 er1 (it_zip l rs l2 rs2)⟩⟩
theorem q_zip {fa : DA} {δ : DEnv} {Q : List D → DEnv → Prop} {X : XC} : iZip fa δ Q X = fa δ (fun ds δ1 => ∃ as bs, ds = [.lst as, .lst bs] ∧ Q (zipD as bs) δ1) X := rfl
/-! ### a fresh list times an int -/
def dRep (f1 f2 : DE) : DE := fun δ Q E => f1 δ (fun x δ1 => f2 δ1 (fun y δ2 => ∃ xs k, x = .lst xs ∧ y = .int k ∧ 0 ≤ k ∧ k < 2 ^ 62 ∧ xs.length * k.toNat ≤ sizeLine ∧ Q (.lst (List.replicate k.toNat xs).flatten) δ2) E) E
theorem Reps.rep {K : PySem.W.Frag} {W : AS} {H : Hp} {vs : List V} {ds : List D} (h : Reps K W H vs ds) : ∀ n : Nat, Reps K W H (List.replicate n vs).flatten (List.replicate n ds).flatten
  | 0 => .nil
  | n + 1 => by
    rw [List.replicate_succ, List.replicate_succ, List.flatten_cons, List.flatten_cons]
    exact h.append (Reps.rep h n)
theorem pf_rep (ha : PF X B wx a f1) (hb : PD X B wx b f2) : PF X B wx (.BinOp a .Mult b pos) (dRep f1 f2) := by
  refine ⟨fun δ Q Q' E E' k ke h => ha.mono _ _ _ _ _ (fun x δ1 h => hb.mono _ _ _ _ _ (fun y δ2 ⟨xs, n, e1, e2, l1, l2, l3, h⟩ => ⟨xs, n, e1, e2, l1, l2, l3, k _ _ h⟩) ke h) ke h, pe_imp (pe_op op_rep ha.run hb.run) fun σ H Q ⟨W, δ, er, q⟩ => ?_⟩
  refine ⟨W, δ, er, ha.mono _ _ _ _ _ (fun d δ1 h1 ad H1 W1 s1 er1 hn wa o ns => ?_) (fun _ _ z => z) q⟩
  have er2 := er1.unguard ns (er.w0 hn)
  have s2 := s1.trans (.sub (a := ad))
  refine ⟨_, δ1, er2, hb.mono _ _ _ _ _ (fun y δ2 h2 v2 H2 W2 s3 er3 r2 => ?_) (fun _ _ z => z.step s2) h1⟩
  obtain ⟨xs, n, rfl, rfl, l1, l2, l3, h2⟩ := h2
  cases r2
  obtain ⟨vs, hv, rs⟩ := Own.sub o
  have hv2 : H2 ad = some (.lst vs) := s3.keep ad _ hv fun z => z.2 rfl
  refine ⟨ad, n, vs, rfl, rfl, hv2, by omega, by omega, by rw [rs.length]; exact l3, fun p hp => h2.new (s2.trans s3) er3 ((rs.step s3).rep _) hp⟩
theorem q_rep {f1 f2 : DE} {δ : DEnv} {Q : D → DEnv → Prop} {X : XC} : dRep f1 f2 δ Q X = f1 δ (fun x δ1 => f2 δ1 (fun y δ2 => ∃ xs k, x = .lst xs ∧ y = .int k ∧ 0 ≤ k ∧ k < 2 ^ 62 ∧ xs.length * k.toNat ≤ sizeLine ∧ Q (.lst (List.replicate k.toNat xs).flatten) δ2) X) X := rfl
end
end DL

namespace DL
open PySem PySem.Spec PyProof.Rows L2

/-! ### an owned list lent to a whole expression that tells something plain -/
mutual
def plD : D → Bool
  | .non => true
  | .bl _ => true
  | .int _ => true
  | .str _ => true
  | .tup ds => plDs ds
  | _ => false
def plDs : List D → Bool
  | [] => true
  | d :: ds => plD d && plDs ds
end
def flD : D → Bool
  | .lst ds => plDs ds
  | _ => false
theorem Rep.plain {K : PySem.W.Frag} {W W2 : AS} {H : Hp} {v : V} {d : D} (h : Rep K W H v d) : plD d = true → Rep K W2 H v d :=
  @Rep.rec K W H (fun v d _ => plD d = true → Rep K W2 H v d) (fun v d _ => plDs d = true → Reps K W2 H v d) (fun v d _ => True) (fun v d _ => True)
    (fun _ => .non) (fun b _ => .bl b) (fun i _ => .int i) (fun x _ => .str x) (fun _ _ _ z => by simp [plD] at z) (fun l _ r z => .tup l (r (by simpa [plD] using z)))
    (fun _ _ _ _ z => by simp [plD] at z) (fun _ _ z => by simp [plD] at z) (fun _ _ _ _ _ _ z => by simp [plD] at z) (fun _ _ _ _ z => by simp [plD] at z)
    (fun _ => .nil) (fun _ _ a b z => by simp only [plDs, Bool.and_eq_true] at z; exact .cons (a z.1) (b z.2)) trivial (fun _ _ _ _ => trivial) trivial (fun _ _ _ _ => trivial) v d h
theorem Reps.plain {K : PySem.W.Frag} {W W2 : AS} {H : Hp} : ∀ {vs : List V} {ds : List D}, Reps K W H vs ds → plDs ds = true → Reps K W2 H vs ds
  | _, _, .nil, _ => .nil
  | _, _, .cons r rs, z => by
    simp only [plDs, Bool.and_eq_true] at z
    exact .cons (r.plain z.1) (rs.plain z.2)
theorem Own.flat {K : PySem.W.Frag} {W W2 : AS} {H : Hp} {a : Addr} {d : D} (h : Own K W H a d) (z : flD d = true) : Own K W2 H a d := by
  cases d with
  | lst ds => obtain ⟨xs, h, r⟩ := h; exact ⟨xs, h, r.plain (by simpa [flD] using z)⟩
  | _ => simp [flD] at z
/-- the other owned things are as they were, and plain within -/
def pkS : S → S → Prop
  | .own e, s => s = .own e ∧ flD e = true
  | .lent e, s => s = .lent e ∧ flD e = true
  | _, _ => True
def pkL : Nat → DEnv → DEnv → Prop
  | _, [], _ => True
  | 0, _ :: δ, _ :: δ1 => pkL0 δ δ1
  | i + 1, s :: δ, s1 :: δ1 => pkS s s1 ∧ pkL i δ δ1
  | _, _ :: _, [] => False
where pkL0 : DEnv → DEnv → Prop
  | [], _ => True
  | s :: δ, s1 :: δ1 => pkS s s1 ∧ pkL0 δ δ1
  | _ :: _, [] => False
theorem pkL0.get : ∀ {δ δ1 : DEnv}, pkL.pkL0 δ δ1 → ∀ {j : Nat} {s : S}, δ[j]? = some s → ∃ s1, δ1[j]? = some s1 ∧ pkS s s1
  | [], _, _, j, s, h => by simp at h
  | s :: δ, s1 :: δ1, k, 0, t, h => by simp at h; subst h; exact ⟨s1, rfl, k.1⟩
  | s :: δ, s1 :: δ1, k, j + 1, t, h => by
    obtain ⟨u, e, p⟩ := pkL0.get k.2 (j := j) (s := t) (by simpa using h)
    exact ⟨u, by simpa using e, p⟩
  | _ :: _, [], k, _, _, _ => k.elim
theorem pkL.get : ∀ {i : Nat} {δ δ1 : DEnv}, pkL i δ δ1 → ∀ {j : Nat} {s : S}, j ≠ i → δ[j]? = some s → ∃ s1, δ1[j]? = some s1 ∧ pkS s s1
  | _, [], _, _, j, s, _, h => by simp at h
  | 0, s :: δ, s1 :: δ1, k, 0, t, n, h => absurd rfl n
  | 0, s :: δ, s1 :: δ1, k, j + 1, t, n, h => by
    obtain ⟨u, e, p⟩ := pkL0.get k (j := j) (s := t) (by simpa using h)
    exact ⟨u, by simpa using e, p⟩
  | i + 1, s :: δ, s1 :: δ1, k, 0, t, n, h => by simp at h; subst h; exact ⟨s1, rfl, k.1⟩
  | i + 1, s :: δ, s1 :: δ1, k, j + 1, t, n, h => by
    obtain ⟨u, e, p⟩ := pkL.get k.2 (j := j) (s := t) (fun z => n (by rw [z])) (by simpa using h)
    exact ⟨u, by simpa using e, p⟩
  | 0, _ :: _, [], k, _, _, _, _ => k.elim
  | _ + 1, _ :: _, [], k, _, _, _, _ => k.elim
section
variable {X : Cx} {B : Bd} {wx : WX} {fr : Bool} {pos p : Pos} {a b c e : Expr} {es : List Expr} {f f1 f2 f3 : DE} {k i : Nat} {fa : DA} {x : Str} {id : String}
def dPeek (i : Nat) (f : DE) : DE := fun δ Q _ => ∃ d, δ[i]? = some (.own d) ∧ f (δ.set i (.v d)) (fun z δ1 => plD z = true ∧ pkL i δ δ1 ∧ Q z δ) xF
theorem peek_of {δ : DEnv} {Q : D → DEnv → Prop} {E : XC} {d : D} (h : δ[i]? = some (.own d)) (q : f (δ.set i (.v d)) (fun z δ1 => plD z = true ∧ pkL i δ δ1 ∧ Q z δ) xF) : dPeek i f δ Q E := ⟨d, h, q⟩
theorem pd_peek (h : PD X B wx e f) : PD X B wx e (dPeek i f) := by
  refine ⟨fun δ Q Q' E E' k ke ⟨d, h1, h2⟩ => ⟨d, h1, h.mono _ _ _ _ _ (fun z δ1 ⟨a, b, c⟩ => ⟨a, b, k _ _ c⟩) (fun _ _ z => z) h2⟩, pe_imp h.run fun σ H Q ⟨W, δ, er, d, hd, q⟩ => ?_⟩
  obtain ⟨a, ea, wa, h0, oa⟩ := er.own i d hd
  obtain ⟨a', ea', er', _⟩ := er.release hd
  rw [ea] at ea'
  cases ea'
  obtain ⟨ob, hob⟩ := oa.some
  refine ⟨_, _, er', h.mono _ _ _ _ _ (fun z δ1 hz v H1 W1 s1 er1 r1 => ?_) (fun _ _ z => z.elim) q⟩
  obtain ⟨pz, pk, hz⟩ := hz
  have ka : H1 a = some ob := s1.keep a ob hob fun z => z.2 rfl
  have st : Step W H (addW W1 a) H1 := ⟨fun b o hb n => s1.keep b o hb fun z => n z.1, fun b hb => by
    rcases hb with hb | hb
    · exact (s1.new b hb).imp (fun z => z.1) id
    · rw [hb]; exact .inl wa, s1.live, s1.tups⟩
  have ow : ∀ {j : Nat} {e : D}, j ≠ i → δ[j]? = some (.own e) → δ1[j]? = some (.own e) ∧ flD e = true := fun {j e} n hj => by
    obtain ⟨s, e1, p⟩ := pk.get n hj
    exact ⟨by rw [e1, p.1], p.2⟩
  have lw : ∀ {j : Nat} {e : D}, j ≠ i → δ[j]? = some (.lent e) → δ1[j]? = some (.lent e) ∧ flD e = true := fun {j e} n hj => by
    obtain ⟨s, e1, p⟩ := pk.get n hj
    exact ⟨by rw [e1, p.1], p.2⟩
  have er2 : ER X.K B (addW W1 a) σ H1 δ := by
    refine ⟨er.len, er1.keep, fun b hb => .inl (er1.sup b hb), fun b hb => ?_, fun j e hj => ?_, fun j e hj => ?_, fun j e hj => ?_, er.dst⟩
    · rcases hb with hb | hb
      · exact er1.trk b hb
      · rw [hb]; exact ⟨ob, ka⟩
    · obtain ⟨v, q, r⟩ := er.val j e hj; exact ⟨v, q, r.step st⟩
    · by_cases n : j = i
      · subst n
        rw [hd] at hj
        cases hj
        exact ⟨a, ea, .inr rfl, h0, oa.step st (ka.trans hob.symm)⟩
      · obtain ⟨h1, h2⟩ := ow n hj
        obtain ⟨b, q, w, m, o⟩ := er1.own j e h1
        exact ⟨b, q, .inl w, m, o.flat h2⟩
    · by_cases n : j = i
      · subst n; rw [hd] at hj; cases hj
      · obtain ⟨h1, h2⟩ := lw n hj
        obtain ⟨b, q, w, o⟩ := er1.lent j e h1
        exact ⟨b, q, w, o.flat h2⟩
  exact hz v H1 _ st er2 (r1.plain pz)
end
end DL

namespace DL
open PySem PySem.Spec PyProof.Rows L2

/-! ### x in name, the list stays owned -/
section
variable {X : Cx} {B : Bd} {wx : WX} {fr : Bool} {pos p : Pos} {a b c e : Expr} {es : List Expr} {f f1 f2 f3 : DE} {k i n : Nat} {fa : DA} {x : Str} {id : String}
def dOpN (g : G2) (f1 : DE) (i : Nat) : DE := fun δ Q E => f1 δ (fun x δ1 => ∃ d, rdAt δ1 i = some d ∧ g x d fun z => Q z δ1) E
theorem mono_opn {g : G2} (m : Mono f1) (mg : ∀ d e (Q Q' : D → Prop), (∀ z, Q z → Q' z) → g d e Q → g d e Q') : Mono (dOpN g f1 i) := fun δ Q Q' E E' k ke h =>
  m _ _ _ _ _ (fun j δ1 ⟨d, h1, h2⟩ => ⟨d, h1, mg _ _ _ _ (fun z h => k _ _ h) h2⟩) ke h
theorem opn_run {K : PySem.W.Frag} {g : G2} {r : R2} (hd : OpD K r g) (ho : ∀ W H a y d e Q, (∀ a, W a → ∃ o, H a = some o) → Rep K W H y d → Own K W H a e → g d e (Gw K W H Q) → r y (.ref a) H Q) (m1 : Mono f1) (σ : L2.St) (H : Hp) (Q : VK) (h : liftE K B wx (dOpN g f1 i) σ H Q) : tOp r (liftE K B wx f1) (tVar i) σ H Q := by
  obtain ⟨W, δ, er, q⟩ := h
  refine ⟨W, δ, er, m1 _ _ _ _ _ (fun j δ1 h1 => ?_) (fun _ _ z => z) q⟩
  obtain ⟨d1, h1, h2⟩ := h1
  intro v1 H1 W1 s1 er1 r1
  obtain ⟨v', ev', hv⟩ := er1.rd h1
  have h3 := hd.mono _ _ _ _ (fun z hz v H3 sm rz => hz v H3 W1 (s1.trans (.same sm)) (er1.grow sm) rz) h2
  refine ⟨v', ev', ?_⟩
  rcases hv with r | ⟨a, rfl, o⟩
  · exact hd.run W1 H1 v1 v' j d1 Q er1.trk r1 r h3
  · exact ho W1 H1 a v1 j d1 Q er1.trk r1 o h3
theorem own_in {K : PySem.W.Frag} : ∀ W H a y d e Q, (∀ a, W a → ∃ o, H a = some o) → Rep K W H y d → Own K W H a e → gIn d e (Gw K W H Q) → rInD K y (.ref a) H Q :=
  fun W H a y d e Q t rx ry ⟨ds, h0, h1, h2, h3⟩ => by
    subst h0
    refine ⟨toP d, toPs ds, rx.dp (SeqAt.canLay_of_shaped h1), ?_, h1, ?_, ?_⟩
    · have := ry.dp (SeqAt.canLay_of_shaped h2)
      simpa only [toP] using this
    · have : SeqAt.shaped (toP (.lst ds)) = true := h2
      simpa only [toP] using this
    · rw [toPs_map, List.any_map]
      exact h3 _ H (Same.refl H) (.bl _)
theorem own_notin {K : PySem.W.Frag} : ∀ W H a y d e Q, (∀ a, W a → ∃ o, H a = some o) → Rep K W H y d → Own K W H a e → gNotIn d e (Gw K W H Q) → rNotInD K y (.ref a) H Q :=
  fun W H a y d e Q t rx ry ⟨ds, h0, h1, h2, h3⟩ => by
    subst h0
    refine ⟨toP d, toPs ds, rx.dp (SeqAt.canLay_of_shaped h1), ?_, h1, ?_, ?_⟩
    · have := ry.dp (SeqAt.canLay_of_shaped h2)
      simpa only [toP] using this
    · have : SeqAt.shaped (toP (.lst ds)) = true := h2
      simpa only [toP] using this
    · rw [toPs_map, List.any_map]
      exact h3 _ H (Same.refl H) (.bl _)
theorem pd_inN (hr : Room n X.A) (ha : PD X B wx a f1) (h : PE X (.Name x p) (tVar i)) (hm : behindInMarks .In (.Name x p) = false := by rfl) : PD X B wx (.Compare a [.In] [.Name x p] pos) (dOpN gIn f1 i) :=
  ⟨mono_opn ha.mono (od_in (K := X.K)).mono, pe_imp (pe_cmpR (op_inD (units65 hr)) ha.run h hm) (opn_run od_in own_in ha.mono)⟩
theorem pd_notinN (hr : Room n X.A) (ha : PD X B wx a f1) (h : PE X (.Name x p) (tVar i)) (hm : behindInMarks .NotIn (.Name x p) = false := by rfl) : PD X B wx (.Compare a [.NotIn] [.Name x p] pos) (dOpN gNotIn f1 i) :=
  ⟨mono_opn ha.mono (od_notIn (K := X.K)).mono, pe_imp (pe_cmpR (op_notInD (units65 hr)) ha.run h hm) (opn_run od_notIn own_notin ha.mono)⟩
theorem pt_inN (hr : Room n X.A) (ha : PD X B wx a f1) (h : PE X (.Name x p) (tVar i)) (hm : behindInMarks .In (.Name x p) = false := by rfl) : PTD X B wx (.Compare a [.In] [.Name x p] pos) (dTest (dOpN gIn f1 i)) := by
  have m := mono_opn (i := i) ha.mono (od_in (K := X.K)).mono
  refine ⟨mono_test m, pt_imp (pt_cmpR (op_inD (units65 hr)) ha.run h hm) fun σ H Q h => ?_⟩
  exact opn_run od_in own_in ha.mono σ H _ (test_run m σ H Q h)
theorem pt_notinN (hr : Room n X.A) (ha : PD X B wx a f1) (h : PE X (.Name x p) (tVar i)) (hm : behindInMarks .NotIn (.Name x p) = false := by rfl) : PTD X B wx (.Compare a [.NotIn] [.Name x p] pos) (dTest (dOpN gNotIn f1 i)) := by
  have m := mono_opn (i := i) ha.mono (od_notIn (K := X.K)).mono
  refine ⟨mono_test m, pt_imp (pt_cmpR (op_notInD (units65 hr)) ha.run h hm) fun σ H Q h => ?_⟩
  exact opn_run od_notIn own_notin ha.mono σ H _ (test_run m σ H Q h)
theorem q_opn {g : G2} {δ : DEnv} {Q : D → DEnv → Prop} {X : XC} : dOpN g f1 i δ Q X = f1 δ (fun x δ1 => rdK δ1 i fun d => g x d fun z => Q z δ1) X := rfl
end
end DL

namespace DL
open PySem PySem.Spec PyProof.Rows L2
open PySem.W (AllAlike Sortable dataLe EachIs)
/-! ### sorted(xs), data of one kind -/
def rSortedD (K : PySem.W.Frag) : List V → Hp → VK → Prop := fun vs H Q => ∃ (a : Addr) (ps : List (V × PyData)), vs = [V.ref a] ∧ SqL K H a (ps.map (·.1)) ∧ (∀ p ∈ ps, Dp K H p.1 p.2) ∧ AllAlike (ps.map (·.2)) ∧ Sortable (ps.map (·.2)) ∧
  (∀ p ∈ ps, p.2.depth ≤ 60) ∧ ∀ q, H q = none → Q (.ref q) (upd H q (.lst ((ps.mergeSort (dataLe false (·.2))).map (·.1))))
theorem each_vals {α : Type} {f : α → V} : ∀ {us : List Value} {ps : List α}, Vals (ps.map f) us → EachIs (fun u p => RelV (f p) u) us ps
  | us, [], r => by cases r; exact .nil
  | us, p :: ps, r => by cases r with | cons a b => exact .cons a (each_vals b)
theorem vals_each {α : Type} {f : α → V} : ∀ {us : List Value} {ps : List α}, EachIs (fun u p => RelV (f p) u) us ps → Vals (ps.map f) us
  | _, [], r => by cases r; exact .nil
  | _, p :: ps, r => by cases r with | cons a b => exact .cons a (vals_each b)
theorem each_and {α β : Type} {R S : α → β → Prop} : ∀ {as : List α} {bs : List β}, EachIs R as bs → (∀ a b, b ∈ bs → R a b → S a b) → EachIs S as bs
  | _, _, .nil, _ => .nil
  | _, _, .cons h t, k => .cons (k _ _ List.mem_cons_self h) (each_and t fun a b m r => k a b (List.mem_cons_of_mem _ m) r)
theorem cr_sortedD {X : Cx} (hu : X.A.units + 65 < cLine) : CallR X (.builtin "sorted") (rSortedD X.K) := by
  intro pins s σ H vs us Q I r h
  obtain ⟨a, ps, rfl, hs, hd, hal, hso, hde, q⟩ := h
  obtain ⟨its, rv, hl, hz⟩ := I.list hs
  rw [Vals.ref1 r]
  have e := each_vals rv
  have hL : ps.length ≤ sizeLine := by rw [List.length_map] at hz; exact hz
  refine PySem.W.sorted_data (bs := ps) (enc := (·.2)) (R := fun u p => RelV p.1 u) hl.isList e (each_and e fun u p m hr => Dp.reads I _ _ _ (hd p m) hr) hal hso hL (fun b hb => by have := hde b hb; omega) fun out ho eo => ?_
  obtain ⟨ep, he'⟩ := PyProof.Rows.sortedAll_at s.heap its out.toArray
  have hlen : ((ps.mergeSort (dataLe false (·.2))).map (·.1)).length ≤ sizeLine := by rw [List.length_map, List.length_mergeSort]; exact hL
  exact ⟨.ref _, upd H (s.heap.objs.size + 1) (.lst ((ps.mergeSort (dataLe false (·.2))).map (·.1))), I.laid (t' := s.toks) (fun _ _ => PyProof.Rows.sortedAll_old) (Nat.le_succ _) ⟨hlen, out, ep, vals_each eo, he'⟩, rfl, q _ (I.hok.fresh (Nat.le_succ _))⟩
/-- may be sorted -/
structure Srtb (xs : List D) : Prop where
  sh : ∀ d ∈ xs, (toP d).canLay0 = true
  al : AllAlike (xs.map toP)
  so : Sortable (xs.map toP)
  de : ∀ d ∈ xs, (toP d).depth ≤ 60
def srtD (xs : List D) : List D := xs.mergeSort (dataLe false toP)
def gSortD : GA := fun ds Q => match ds with
  | [.lst xs] => Srtb xs ∧ Q (.lst (srtD xs))
  | _ => False
theorem Reps.zip {K : PySem.W.Frag} {W : AS} {H : Hp} : ∀ {vs : List V} {ds : List D}, Reps K W H vs ds → ∃ ps : List (V × D), ps.map (·.1) = vs ∧ ps.map (·.2) = ds ∧ ∀ p ∈ ps, Rep K W H p.1 p.2
  | [], _, h => by cases h; exact ⟨[], rfl, rfl, fun _ h => by cases h⟩
  | v :: vs, _, h => by
    cases h with
    | @cons _ d _ ds a b =>
      obtain ⟨ps, e1, e2, h⟩ := Reps.zip b
      exact ⟨(v, d) :: ps, by simp [e1], by simp [e2], fun p hp => by
        rcases List.mem_cons.mp hp with rfl | hp
        · exact a
        · exact h p hp⟩
theorem Reps.unzip {K : PySem.W.Frag} {W : AS} {H : Hp} : ∀ {ps : List (V × D)}, (∀ p ∈ ps, Rep K W H p.1 p.2) → Reps K W H (ps.map (·.1)) (ps.map (·.2))
  | [], _ => .nil
  | p :: ps, h => .cons (h p List.mem_cons_self) (Reps.unzip fun q hq => h q (List.mem_cons_of_mem _ hq))
theorem cf_sortD {K : PySem.W.Frag} : CallF K (rSortedD K) gSortD where
  mono := fun d Q Q' k q => by
    unfold gSortD at q ⊢
    split at q
    · exact ⟨q.1, k _ q.2⟩
    · exact q.elim
  run := fun W H xs ds Q t r q => by
    unfold gSortD at q
    split at q
    · obtain ⟨sb, q⟩ := q
      cases r with
      | cons r rr =>
        cases rr
        cases r with
        | lst l rs =>
          obtain ⟨ps, e1, e2, hp⟩ := rs.zip
          subst e1 e2
          have hm : ((ps.map fun p => (p.1, toP p.2)).map (·.1)) = ps.map (·.1) := by rw [List.map_map]; rfl
          have hm2 : ((ps.map fun p => (p.1, toP p.2)).map (·.2)) = (ps.map (·.2)).map toP := by rw [List.map_map, List.map_map]; rfl
          refine ⟨_, ps.map fun p => (p.1, toP p.2), rfl, by rw [hm]; exact l.sq, fun p hq => ?_, by rw [hm2]; exact sb.al, by rw [hm2]; exact sb.so, fun p hq => ?_, fun p hp' => ?_⟩
          · obtain ⟨x, hx, rfl⟩ := List.mem_map.mp hq
            exact (hp x hx).dp (sb.sh _ (List.mem_map.mpr ⟨x, hx, rfl⟩))
          · obtain ⟨x, hx, rfl⟩ := List.mem_map.mp hq
            exact sb.de _ (List.mem_map.mpr ⟨x, hx, rfl⟩)
          · have e3 : (ps.map fun p => (p.1, toP p.2)).mergeSort (dataLe false (·.2)) = (ps.mergeSort (dataLe false fun p => toP p.2)).map fun p => (p.1, toP p.2) := (PySem.W.sort_maps (fun p : V × D => (p.1, toP p.2)) (l := ps) (fun a _ b _ => rfl)).symm
            have e4 : srtD (ps.map (·.2)) = (ps.mergeSort (dataLe false fun p => toP p.2)).map (·.2) := (PySem.W.sort_maps (fun p : V × D => p.2) (l := ps) (fun a _ b _ => rfl)).symm
            rw [e3, List.map_map]
            rw [e4] at q
            refine q p _ (same_new hp') hp' ⟨_, upd_same, ?_⟩
            have : Reps K W H ((ps.mergeSort (dataLe false fun p => toP p.2)).map (·.1)) ((ps.mergeSort (dataLe false fun p => toP p.2)).map (·.2)) := Reps.unzip fun p hq => hp p ((List.mergeSort_perm _ _).mem_iff.mp hq)
            exact this.step (.alloc (same_new hp') hp')
    · exact q.elim
section
variable {X : Cx} {B : Bd} {wx : WX} {fr : Bool} {pos p p2 : Pos} {a b c e : Expr} {es : List Expr} {f f1 f2 f3 : DE} {k i n : Nat} {fa : DA} {x z : Str}
theorem pf_sortedD (hr : Room n X.A) (hg : Gl X "sorted") (hm : X.mg "sorted" = none) (ha : PAD X B wx [e] fa) (he : starEach [e] X.env = (false, eval e X.env) :: starEach [] X.env := by rfl) (hpl : (backTo pos (starEach [] X.env)).any (·.1) = false := by rfl) :
    PF X B wx (.Call (.Name "sorted" p) [e] [] pos) (dCB gSortD fa) := pf_cb (cr_sortedD (units65 hr)) cf_sortD hg hm (by decide +kernel) ha (by decide) (by decide) he hpl
theorem q_sortD {xs : List D} {P : D → Prop} : gSortD [.lst xs] P = (Srtb xs ∧ P (.lst (srtD xs))) := rfl
end
end DL

namespace DL
open PySem PySem.Spec PyProof.Rows L2
/-! ### list(range(n)), list(range(i, j)) -/
section
variable {X : Cx} {B : Bd} {wx : WX} {fr : Bool} {pos p p2 pos2 : Pos} {a b c e : Expr} {es : List Expr} {f f1 f2 f3 : DE} {k i n : Nat} {fa : DA} {x z : Str}
theorem reps_rg {K : PySem.W.Frag} {W : AS} {H : Hp} (lo : Int) (j : Int) : Reps K W H (rgV lo j) (rngD lo (j - lo).toNat) := by
  unfold rgV rngD
  generalize (j - lo).toNat = n
  generalize List.range n = l
  induction l with
  | nil => exact .nil
  | cons i l ih => exact .cons (.int _) ih
def dLRng1 (f : DE) : DE := fun δ Q E => f δ (fun x δ1 => ∃ n, x = .int n ∧ RgOk 0 n ∧ Q (.lst (rngD 0 (n - 0).toNat)) δ1) E
def dLRng2 (f1 f2 : DE) : DE := fun δ Q E => f1 δ (fun x δ1 => f2 δ1 (fun y δ2 => ∃ i j, x = .int i ∧ y = .int j ∧ RgOk i j ∧ Q (.lst (rngD i (j - i).toNat)) δ2) E) E
theorem pf_lrng1 (hc : X.calm = true) (hg : Gl X "list") (hm : X.mg "list" = none) (hg2 : Gl X "range") (hm2 : X.mg "range" = none) (ha : PD X B wx a f) (na : starEach [a] X.env = (false, eval a X.env) :: starEach [] X.env := by rfl)
    (na2 : starEach [.Call (.Name "range" p2) [a] [] pos2] X.env = (false, eval (.Call (.Name "range" p2) [a] [] pos2) X.env) :: starEach [] X.env := by rfl) : PF X B wx (.Call (.Name "list" p) [.Call (.Name "range" p2) [a] [] pos2] [] pos) (dLRng1 f) := by
  refine ⟨fun δ Q Q' E E' k ke h => ha.mono _ _ _ _ _ (fun x δ1 ⟨n, e, r, h⟩ => ⟨n, e, r, k _ _ h⟩) ke h, pe_imp (pe_listRg hc hg hm (prg_1 hg2 hm2 ha.run na) na2) fun σ H Q ⟨W, δ, er, q⟩ => ?_⟩
  refine ⟨W, δ, er, ha.mono _ _ _ _ _ (fun d δ1 h1 v H1 W1 s1 er1 r1 => ?_) (fun _ _ z => z) q⟩
  obtain ⟨n, rfl, hr, h1⟩ := h1
  cases r1
  exact ⟨n, rfl, hr, fun p hp => h1.new s1 er1 (reps_rg _ _) hp⟩
theorem pf_lrng2 (hc : X.calm = true) (hg : Gl X "list") (hm : X.mg "list" = none) (hg2 : Gl X "range") (hm2 : X.mg "range" = none) (ha : PD X B wx a f1) (hb : PD X B wx b f2) (na : starEach [a, b] X.env = (false, eval a X.env) :: starEach [b] X.env := by rfl) (nb : starEach [b] X.env = (false, eval b X.env) :: starEach [] X.env := by rfl)
    (hpl : (backTo pos2 (starEach [b] X.env)).any (·.1) = false := by rfl) (na2 : starEach [.Call (.Name "range" p2) [a, b] [] pos2] X.env = (false, eval (.Call (.Name "range" p2) [a, b] [] pos2) X.env) :: starEach [] X.env := by rfl) : PF X B wx (.Call (.Name "list" p) [.Call (.Name "range" p2) [a, b] [] pos2] [] pos) (dLRng2 f1 f2) := by
  refine ⟨fun δ Q Q' E E' k ke h => ha.mono _ _ _ _ _ (fun x δ1 h => hb.mono _ _ _ _ _ (fun y δ2 ⟨i, j, e, e2, r, h⟩ => ⟨i, j, e, e2, r, k _ _ h⟩) ke h) ke h, pe_imp (pe_listRg hc hg hm (prg_2 hg2 hm2 ha.run hb.run na nb hpl) na2) fun σ H Q ⟨W, δ, er, q⟩ => ?_⟩
  refine ⟨W, δ, er, ha.mono _ _ _ _ _ (fun d δ1 h1 v H1 W1 s1 er1 r1 => ?_) (fun _ _ z => z) q⟩
  refine ⟨W1, δ1, er1, hb.mono _ _ _ _ _ (fun d2 δ2 h2 v2 H2 W2 s2 er2 r2 => ?_) (fun _ _ z => z.step s1) h1⟩
  obtain ⟨i, j, rfl, rfl, hr, h2⟩ := h2
  cases r2
  cases r1
  exact ⟨i, j, rfl, rfl, hr, fun p hp => h2.new (s1.trans s2) er2 (reps_rg _ _) hp⟩
theorem q_lrng1 {δ : DEnv} {Q : D → DEnv → Prop} {X : XC} : dLRng1 f δ Q X = f δ (fun x δ1 => ∃ n, x = .int n ∧ RgOk 0 n ∧ Q (.lst (rngD 0 (n - 0).toNat)) δ1) X := rfl
theorem q_lrng2 {δ : DEnv} {Q : D → DEnv → Prop} {X : XC} : dLRng2 f1 f2 δ Q X = f1 δ (fun x δ1 => f2 δ1 (fun y δ2 => ∃ i j, x = .int i ∧ y = .int j ∧ RgOk i j ∧ Q (.lst (rngD i (j - i).toNat)) δ2) X) X := rfl
/-! ### tuple(x) -/
def dTupO (f : DE) : DE := fun δ Q E => f δ (fun x δ1 => (∃ ds, (x = .lst ds ∨ x = .tup ds) ∧ Q (.tup ds) δ1)) E
theorem pd_tupO (hg : Gl X "tuple") (hm : X.mg "tuple" = none) (ha : PD X B wx a f) (na : starEach [a] X.env = (false, eval a X.env) :: starEach [] X.env := by rfl) : PD X B wx (.Call (.Name "tuple" p) [a] [] pos) (dTupO f) := by
  refine ⟨fun δ Q Q' E E' k ke h => ha.mono _ _ _ _ _ (fun x δ1 ⟨ds, e, h⟩ => ⟨ds, e, k _ _ h⟩) ke h, pe_imp (pe_tupleOf hg hm ha.run na) fun σ H Q ⟨W, δ, er, q⟩ => ?_⟩
  refine ⟨W, δ, er, ha.mono _ _ _ _ _ (fun d δ1 h1 v H1 W1 s1 er1 r1 => ?_) (fun _ _ z => z) q⟩
  obtain ⟨ds, e, h1⟩ := h1
  rcases e with rfl | rfl
  · cases r1 with
    | lst l rs => exact .inl ⟨_, _, rfl, l.sq, fun q hq => h1 _ _ _ (s1.trans (.same (same_new hq))) (er1.grow (same_new hq)) (.tup (show upd H1 q _ q = _ from upd_same) (rs.step (.same (same_new hq))))⟩
  · cases r1 with
    | tup l rs => exact .inr ⟨_, _, rfl, l.sq, h1 _ _ _ s1 er1 (.tup l rs)⟩
theorem q_tupO {δ : DEnv} {Q : D → DEnv → Prop} {X : XC} : dTupO f δ Q X = f δ (fun x δ1 => (∃ ds, (x = .lst ds ∨ x = .tup ds) ∧ Q (.tup ds) δ1)) X := rfl
end
end DL

namespace DL
open PySem PySem.Spec PyProof.Rows L2
/-! ### an owned list lent to a test -/
section
variable {X : Cx} {B : Bd} {wx : WX} {e : Expr} {f : DE} {i : Nat}
theorem peek_er {K : PySem.W.Frag} {W W1 : AS} {σ : L2.St} {H H1 : Hp} {δ δ1 : DEnv} {d : D} {a : Addr} (er : ER K B W σ H δ) (hd : δ[i]? = some (.own d)) (ea : σ[i]? = some (some (.ref a))) (wa : W a) (h0 : B.H0 a = Option.none) (oa : Own K W H a d)
    (s1 : Step (subW W a) H W1 H1) (er1 : ER K B W1 σ H1 δ1) (pk : pkL i δ δ1) : Step W H (addW W1 a) H1 ∧ ER K B (addW W1 a) σ H1 δ := by
  obtain ⟨ob, hob⟩ := oa.some
  have ka : H1 a = some ob := s1.keep a ob hob fun z => z.2 rfl
  have st : Step W H (addW W1 a) H1 := ⟨fun b o hb n => s1.keep b o hb fun z => n z.1, fun b hb => by
    rcases hb with hb | hb
    · exact (s1.new b hb).imp (fun z => z.1) id
    · rw [hb]; exact .inl wa, s1.live, s1.tups⟩
  have ow : ∀ {j : Nat} {e : D}, j ≠ i → δ[j]? = some (.own e) → δ1[j]? = some (.own e) ∧ flD e = true := fun {j e} n hj => by
    obtain ⟨s, e1, p⟩ := pk.get n hj
    exact ⟨by rw [e1, p.1], p.2⟩
  have lw : ∀ {j : Nat} {e : D}, j ≠ i → δ[j]? = some (.lent e) → δ1[j]? = some (.lent e) ∧ flD e = true := fun {j e} n hj => by
    obtain ⟨s, e1, p⟩ := pk.get n hj
    exact ⟨by rw [e1, p.1], p.2⟩
  refine ⟨st, er.len, er1.keep, fun b hb => .inl (er1.sup b hb), fun b hb => ?_, fun j e hj => ?_, fun j e hj => ?_, fun j e hj => ?_, er.dst⟩
  · rcases hb with hb | hb
    · exact er1.trk b hb
    · rw [hb]; exact ⟨ob, ka⟩
  · obtain ⟨v, q, r⟩ := er.val j e hj; exact ⟨v, q, r.step st⟩
  · by_cases n : j = i
    · subst n
      rw [hd] at hj
      cases hj
      exact ⟨a, ea, .inr rfl, h0, oa.step st (ka.trans hob.symm)⟩
    · obtain ⟨h1, h2⟩ := ow n hj
      obtain ⟨b, q, w, m, o⟩ := er1.own j e h1
      exact ⟨b, q, .inl w, m, o.flat h2⟩
  · by_cases n : j = i
    · subst n; rw [hd] at hj; cases hj
    · obtain ⟨h1, h2⟩ := lw n hj
      obtain ⟨b, q, w, o⟩ := er1.lent j e h1
      exact ⟨b, q, w, o.flat h2⟩
def dPeekT (i : Nat) (t : DT) : DT := fun δ Q _ => ∃ d, δ[i]? = some (.own d) ∧ t (δ.set i (.v d)) (fun b δ1 => pkL i δ δ1 ∧ Q b δ) xF
theorem peekT_of {t : DT} {δ : DEnv} {Q : Bool → DEnv → Prop} {E : XC} {d : D} (h : δ[i]? = some (.own d)) (q : t (δ.set i (.v d)) (fun b δ1 => pkL i δ δ1 ∧ Q b δ) xF) : dPeekT i t δ Q E := ⟨d, h, q⟩
theorem pt_peek {t : DT} (h : PTD X B wx e t) : PTD X B wx e (dPeekT i t) := by
  refine ⟨fun δ Q Q' E E' k ke ⟨d, h1, h2⟩ => ⟨d, h1, h.mono _ _ _ _ _ (fun z δ1 ⟨a, b⟩ => ⟨a, k _ _ b⟩) (fun _ _ z => z) h2⟩, pt_imp h.run fun σ H Q ⟨W, δ, er, d, hd, q⟩ => ?_⟩
  obtain ⟨a, ea, wa, h0, oa⟩ := er.own i d hd
  obtain ⟨a', ea', er', _⟩ := er.release hd
  rw [ea] at ea'
  cases ea'
  refine ⟨_, _, er', h.mono _ _ _ _ _ (fun z δ1 hz b' H1 W1 s1 er1 r1 => ?_) (fun _ _ z => z.elim) q⟩
  obtain ⟨pk, hz⟩ := hz
  obtain ⟨st, er2⟩ := peek_er er hd ea wa h0 oa s1 er1 pk
  exact hz b' H1 _ st er2 r1
end
end DL

namespace DL
open PySem PySem.Spec PyProof.Rows L2
/-! ### x in t, t a tuple -/
def rInT (K : PySem.W.Frag) : R2 := fun x y H Q => ∃ d ds, Dp K H x d ∧ Dp K H y (.tuple ds) ∧ SeqAt.shaped d = true ∧ SeqAt.shaped (.tuple ds) = true ∧ Q (.bl (ds.any fun z => PyData.eqv z d)) H
def rNotInT (K : PySem.W.Frag) : R2 := fun x y H Q => ∃ d ds, Dp K H x d ∧ Dp K H y (.tuple ds) ∧ SeqAt.shaped d = true ∧ SeqAt.shaped (.tuple ds) = true ∧ Q (.bl (!ds.any fun z => PyData.eqv z d)) H
theorem op_inT {X : Cx} (hu : X.A.units + 65 < cLine) : OpR X (compareOp .In) (rInT X.K) := by
  intro pins s σ H x y v u Q I rx ry h
  obtain ⟨d, ds, hd, he, sd, se, q⟩ := h
  obtain ⟨as, r1⟩ := Dp.reads I d x v hd rx
  obtain ⟨bs, r2⟩ := Dp.reads I (.tuple ds) y u he ry
  exact SeqAt.in_tuple_reads r2 r1 (SeqAt.canLay_of_shaped se) (SeqAt.canLay_of_shaped sd) (room_in_shaped sd hu) ⟨.bl _, H, I, rfl, q⟩
theorem op_notInT {X : Cx} (hu : X.A.units + 65 < cLine) : OpR X (compareOp .NotIn) (rNotInT X.K) := by
  intro pins s σ H x y v u Q I rx ry h
  obtain ⟨d, ds, hd, he, sd, se, q⟩ := h
  obtain ⟨as, r1⟩ := Dp.reads I d x v hd rx
  obtain ⟨bs, r2⟩ := Dp.reads I (.tuple ds) y u he ry
  exact SeqAt.notIn_tuple_reads r2 r1 (SeqAt.canLay_of_shaped se) (SeqAt.canLay_of_shaped sd) (room_in_shaped sd hu) ⟨.bl _, H, I, rfl, q⟩
def gInT : G2 := fun d e Q => ∃ ds, e = .tup ds ∧ shp d = true ∧ shp (.tup ds) = true ∧ Q (.bl (ds.any fun z => eqd z d))
def gNotInT : G2 := fun d e Q => ∃ ds, e = .tup ds ∧ shp d = true ∧ shp (.tup ds) = true ∧ Q (.bl (!ds.any fun z => eqd z d))
theorem od_inT {K : PySem.W.Frag} : OpD K (rInT K) gInT where
  mono := fun d e Q Q' k ⟨ds, h0, h1, h2, h3⟩ => ⟨ds, h0, h1, h2, k _ h3⟩
  run := fun W H x y d e Q t rx ry ⟨ds, h0, h1, h2, h3⟩ => by
    subst h0
    refine ⟨toP d, toPs ds, rx.dp (SeqAt.canLay_of_shaped h1), ?_, h1, ?_, ?_⟩
    · have := ry.dp (SeqAt.canLay_of_shaped h2)
      simpa only [toP] using this
    · have : SeqAt.shaped (toP (.tup ds)) = true := h2
      simpa only [toP] using this
    · rw [toPs_map, List.any_map]
      exact h3 _ H (Same.refl H) (.bl _)
theorem od_notInT {K : PySem.W.Frag} : OpD K (rNotInT K) gNotInT where
  mono := fun d e Q Q' k ⟨ds, h0, h1, h2, h3⟩ => ⟨ds, h0, h1, h2, k _ h3⟩
  run := fun W H x y d e Q t rx ry ⟨ds, h0, h1, h2, h3⟩ => by
    subst h0
    refine ⟨toP d, toPs ds, rx.dp (SeqAt.canLay_of_shaped h1), ?_, h1, ?_, ?_⟩
    · have := ry.dp (SeqAt.canLay_of_shaped h2)
      simpa only [toP] using this
    · have : SeqAt.shaped (toP (.tup ds)) = true := h2
      simpa only [toP] using this
    · rw [toPs_map, List.any_map]
      exact h3 _ H (Same.refl H) (.bl _)
section
variable {X : Cx} {B : Bd} {wx : WX} {fr : Bool} {pos p p2 : Pos} {a b c e : Expr} {es : List Expr} {f f1 f2 f3 : DE} {k i n : Nat} {fa : DA} {x z : Str}
abbrev dInT (f1 f2 : DE) : DE := dOp gInT f1 f2
abbrev dNotInT (f1 f2 : DE) : DE := dOp gNotInT f1 f2
theorem pd_inT (hr : Room n X.A) (ha : PD X B wx a f1) (hb : PD X B wx b f2) (hm : behindInMarks .In b = false := by rfl) : PD X B wx (.Compare a [.In] [b] pos) (dInT f1 f2) := pd_cmp (op_inT (units65 hr)) od_inT ha hb hm
theorem pd_notinT (hr : Room n X.A) (ha : PD X B wx a f1) (hb : PD X B wx b f2) (hm : behindInMarks .NotIn b = false := by rfl) : PD X B wx (.Compare a [.NotIn] [b] pos) (dNotInT f1 f2) := pd_cmp (op_notInT (units65 hr)) od_notInT ha hb hm
theorem pt_inT (hr : Room n X.A) (ha : PD X B wx a f1) (hb : PD X B wx b f2) (hm : behindInMarks .In b = false := by rfl) : PTD X B wx (.Compare a [.In] [b] pos) (dTest (dInT f1 f2)) := ptd_cmp (op_inT (units65 hr)) od_inT ha hb hm
theorem pt_notinT (hr : Room n X.A) (ha : PD X B wx a f1) (hb : PD X B wx b f2) (hm : behindInMarks .NotIn b = false := by rfl) : PTD X B wx (.Compare a [.NotIn] [b] pos) (dTest (dNotInT f1 f2)) := ptd_cmp (op_notInT (units65 hr)) od_notInT ha hb hm
theorem q_inT {d : D} {ds : List D} {P : D → Prop} : gInT d (.tup ds) P = (shp d = true ∧ shp (.tup ds) = true ∧ P (.bl (ds.any fun z => eqd z d))) := propext ⟨fun ⟨_, e, h⟩ => by cases e; exact h, fun h => ⟨_, rfl, h⟩⟩
theorem q_notinT {d : D} {ds : List D} {P : D → Prop} : gNotInT d (.tup ds) P = (shp d = true ∧ shp (.tup ds) = true ∧ P (.bl (!ds.any fun z => eqd z d))) := propext ⟨fun ⟨_, e, h⟩ => by cases e; exact h, fun h => ⟨_, rfl, h⟩⟩
end
/-! ### t[::-1], t a tuple of two -/
section
variable {prog : Program} {w : World} {A : Around} {E : Value → Shared → Prop} {s : Shared}
theorem getItem_tuple_rev2 {t sl : Addr} {x y vs : Value} {Q : Value → Shared → Prop} (ht : IsTup s.heap t #[x, y]) (hs : s.heap.IsSliceOf sl .none .none vs) (ps : IsPart vs (some (-1)))
    (h : Q (.ref s.heap.objs.size) { s with heap := s.heap.push { cls := .type "tuple", data := .seq #[y, x] } }) : wpAny (model prog w) A (getItem (.ref t) (.ref sl)) Q E s := by
  have htake : sizeOk (.seq #[y, x]) := by
    show 2 ≤ sizeLine
    rw [sizeLine_eq]; decide
  obtain ⟨os, hos, hcs, hds⟩ := id hs
  have hTs : s.TypeIs (.ref sl) "slice" := ⟨os, hos, hcs⟩
  unfold getItem
  try with_reducible refine wpAny_holding ?_
  first | refine wpAny_bind (wpAny_pure ?_) | skip
  refine wpAny_bind (wpAny_sequenceKey ht.typeIs (by decide) ?_)
  refine wpAny_bind (wpAny_callSpecial?_slot (name := Str.ofString "__getitem__") ht.typeIs PyProof.Rows.slot_tuple_getitem
    (wpAny_call_entry PyProof.Rows.slot_tuple_getitem ht.typeIs entry_tuple_getitem ?_ (args_tuple_getitem _ _)))
  show wpAny _ _ (Builtin.Tuple.tupleItemsOf (.ref t) >>= _) _ _ s
  refine wpAny_bind (tupleItemsOf_ ht ?_)
  refine wpAny_bind (wpAny_typeOf hTs ?_)
  rw [if_pos (by decide)]
  cases ps with
  | int _ tk =>
  refine wpAny_bind ?_
  unfold Builtin.Slice.sliceApplied Builtin.Slice.sliceFields
  refine wpAny_bind (wpAny_bind (wpAny_field hos hds (x := .none) rfl (wpAny_bind (wpAny_field hos hds (x := .none) rfl (wpAny_bind (wpAny_field hos hds (x := .int (-1) tk) rfl (wpAny_pure ?_)))))))
  refine wpAny_bind (slicePart_int ?_)
  show wpAny _ _ (if ((-1 : Int) == 0) = true then _ else _) _ _ s
  rw [if_neg (by decide)]
  refine wpAny_bind (slicePart_none (wpAny_bind (slicePart_none (wpAny_bind (wpAny_pure ?_)))))
  have e : Builtin.Slice.sliceAdjust none none ((some (-1 : Int)).getD 1) ((#[x, y].size : Nat) : Int) = (1, -1) := rfl
  rw [e]
  refine wpAny_pure ?_
  show wpAny _ _ (if ((1 : Int) == 0 && (-1 : Int) == 1 && (2 : Nat) == 2) = true then _ else _) _ _ s
  rw [if_neg (by decide)]
  show wpAny _ _ (Builtin.Tuple.tupleExact #[y, x] >>= _) _ _ s
  first
    | exact wpAny_bind (m := Builtin.Tuple.tupleExact _) (wpAny_newObj_type (wpAny_pure ⟨_, rfl, wpAny_pure h⟩) htake)
    | exact wpAny_bind (m := Builtin.Tuple.tupleExact _) (wpAny_newObj_type (wpAny_bind (wpAny_pure (wpAny_pure ⟨_, rfl, wpAny_pure h⟩))) htake)
    | exact wpAny_bind (wpAny_bind (m := Builtin.Tuple.tupleExact _) (wpAny_newObj_type (wpAny_pure (wpAny_pure ⟨_, rfl, wpAny_pure h⟩)) htake))
end
section
variable {X : Cx} {B : Bd} {wx : WX} {fr : Bool} {pos : Pos} {a b c e : Expr} {es : List Expr} {f f1 f2 f3 : DE} {k i n : Nat} {fa : DA} {x z : Str}
def tRevT (K : PySem.W.Frag) (te : TE) : TE := fun σ H Q => te σ H fun x H1 => ∃ a u v, x = .ref a ∧ SqT K H1 a [u, v] ∧ ∀ p, H1 p = none → Q (.ref p) (upd H1 p (.tup [v, u]))
theorem pe_revT {te : TE} {k : Nat} {p1 p2 p3 : Pos} (he : PE X e te) : PE X (.Subscript e (.Slice none none (some (.UnaryOp .USub (.Constant (.int 1) k p1) p2)) p3) pos) (tRevT X.K te) := by
  refine ⟨fun pins s σ H Q I h => ?_⟩
  refine Subscript_ (thn (he.run pins s σ H _ I h) fun v s1 ⟨x, H1, I1, r1, q1⟩ => ?_)
  obtain ⟨a, x1, x2, ex, hx, q⟩ := q1
  subst ex
  cases r1
  have hst : PO X (some (.UnaryOp .USub (.Constant (.int 1) k p1) p2)) (tPart (tUn (rU fun i => .int (-i)) (tC (.int 1)))) := po_some (pe_un un_neg pe_int)
  refine wpAny_Slice (thn (po_none.run pins s1 σ H1 (fun o H2 => o = none ∧ H2 = H1) I1 ⟨rfl, rfl⟩) fun vl s2 ⟨l, H2, I2, pl, el, e2⟩ => ?_)
  subst el e2
  refine thn (po_none.run pins s2 σ H2 (fun o H3 => o = none ∧ H3 = H2) I2 ⟨rfl, rfl⟩) fun vu s3 ⟨u, H3, I3, pu, eu, e3⟩ => ?_
  subst eu e3
  refine thn (hst.run pins s3 σ H3 (fun o H4 => o = some (-1) ∧ H4 = H3) I3 ⟨1, rfl, -1, rfl, rfl, rfl⟩) fun vs s4 ⟨o, H4, I4, ps, eo, e4⟩ => ?_
  subst eo e4
  cases pl
  cases pu
  have I5 : Inv X pins σ H4 { s4 with heap := s4.heap.push { cls := .type "slice", data := .fields #[.none, .none, vs] } } := I4.kept (t' := s4.toks) fun b ob q => Heap.get?_push_of_some _ q
  obtain ⟨its, r, ht, hz⟩ := I5.tuple hx
  obtain ⟨y1, y2, rfl, r1, r2⟩ : ∃ y1 y2, its = [y1, y2] ∧ RelV x1 y1 ∧ RelV x2 y2 := by
    cases r with
    | cons r1 r =>
      cases r with
      | cons r2 r => cases r; exact ⟨_, _, rfl, r1, r2⟩
  show wpAny (model X.prog X.w) X.A (subscriptTail e (.Slice none none (some (.UnaryOp .USub (.Constant (.int 1) k p1) p2)) p3) (.ref a) (.ref s4.heap.objs.size)) (EP X pins σ Q) X.xe { s4 with heap := s4.heap.push { cls := .type "slice", data := .fields #[.none, .none, vs] } }
  refine tail_any (ops := [.ref a, .ref s4.heap.objs.size]) ht.typeIs (PyProof.Rows.slot_tuple_getitem.lookup) ?_ (by with_unfolding_all rfl)
  refine getItem_tuple_rev2 ht (Heap.IsSliceOf.new _ .none .none vs) ps ?_
  refine ⟨.ref _, _, I5.laid (t' := s4.toks) (o := .tup [x2, x1]) (fun b ob q => Heap.get?_push_of_some _ q) (Nat.le_refl _) ?_, rfl, q _ (I5.hok.fresh (Nat.le_refl _))⟩
  exact ⟨hz, _, .cons r2 (.cons r1 .nil), IsTup.new _ _⟩
def dRevT (f : DE) : DE := fun δ Q E => f δ (fun d δ1 => ∃ u v, d = .tup [u, v] ∧ Q (.tup [v, u]) δ1) E
theorem pd_revT {kk : Nat} {p1 p2 p3 : Pos} (ha : PD X B wx a f1) : PD X B wx (.Subscript a (.Slice none none (some (.UnaryOp .USub (.Constant (.int 1) kk p1) p2)) p3) pos) (dRevT f1) := by
  refine ⟨fun δ Q Q' E E' k ke h => ha.mono _ _ _ _ _ (fun x δ1 ⟨u, v, e, h⟩ => ⟨u, v, e, k _ _ h⟩) ke h, pe_imp (pe_revT ha.run) fun σ H Q ⟨W, δ, er, q⟩ => ?_⟩
  refine ⟨W, δ, er, ha.mono _ _ _ _ _ (fun x δ1 h1 v1 H1 W1 s1 er1 r1 => ?_) (fun _ _ z => z) q⟩
  obtain ⟨u, v, rfl, h1⟩ := h1
  cases r1 with
  | tup l1 rs1 =>
    cases rs1 with
    | cons a1 rs1 =>
      cases rs1 with
      | cons a2 rs1 =>
        cases rs1
        refine ⟨_, _, _, rfl, l1.sq, fun p hp => ?_⟩
        exact h1 _ _ _ (s1.trans (.same (same_new hp))) (er1.grow (same_new hp)) (.tup (show upd H1 p _ p = _ from upd_same) ((Reps.cons a2 (.cons a1 .nil)).step (.same (same_new hp))))
theorem q_revT {δ : DEnv} {u v : D} {Q : D → DEnv → Prop} {E : XC} : dRevT f δ Q E = f δ (fun d δ1 => ∃ u v, d = .tup [u, v] ∧ Q (.tup [v, u]) δ1) E := rfl
theorem ex_tup2 {u v : D} {k : D → D → Prop} : (∃ a b, D.tup [u, v] = .tup [a, b] ∧ k a b) = k u v := propext ⟨fun ⟨_, _, e, h⟩ => by cases e; exact h, fun h => ⟨_, _, rfl, h⟩⟩
end
end DL

namespace DL
open PySem PySem.Spec PyProof.Rows L2
/-! ### rows.pop(), rows.pop(e) as expressions -/
section
variable {X : Cx} {B : Bd} {wx : WX} {fr : Bool} {pos p p2 : Pos} {a b c e : Expr} {es : List Expr} {f f1 f2 f3 : DE} {k i n : Nat} {fa : DA} {x z : Str}
def dPopE (i : Nat) : DE := fun δ Q _ => ∃ ds d, ownAt δ i = some (.lst (ds ++ [d])) ∧ Q d (putAt δ i (.lst ds))
theorem Reps.unsnoc {K : PySem.W.Frag} {W : AS} {H : Hp} {d : D} : ∀ {ds : List D} {xs : List V}, Reps K W H xs (ds ++ [d]) → ∃ vs v, xs = vs ++ [v] ∧ Reps K W H vs ds ∧ Rep K W H v d
  | [], _, h => by
    cases h with
    | cons a b => cases b; exact ⟨[], _, rfl, .nil, a⟩
  | e :: ds, _, h => by
    cases h with
    | cons a b =>
      obtain ⟨vs, v, rfl, h1, h2⟩ := Reps.unsnoc b
      exact ⟨_ :: vs, v, rfl, .cons a h1, h2⟩
theorem pd_pop {apos : Pos} (h : PE X (.Name x p) (tVar i)) (mc : MCall X (.Name x p) "pop" [] apos pos := by exact ⟨rfl, rfl, rfl⟩) : PD X B wx (.Call (.Attribute (.Name x p) "pop" apos) [] [] pos) (dPopE i) := by
  have hr := pe_bm0 (X := X) (cpos := pos) (apos := apos) PySem.F.plainAttrs_list PySem.F.slot_list_pop PySem.F.type_list_pop mt_pop h mc.1 mc.2.2
  refine ⟨fun δ Q Q' E E' k ke ⟨ds, d, h1, h2⟩ => ⟨ds, d, h1, k _ _ h2⟩, pe_imp hr fun σ H Q ⟨W, δ, er, ds, d, ho, q⟩ => ?_⟩
  obtain ⟨ad, ea, wa, ⟨xs, hx, rs⟩, _⟩ := er.ownAt ho
  obtain ⟨vs, v, rfl, r1, r2⟩ := Reps.unsnoc rs
  have st : Step W H W (upd H ad (.lst vs)) := .write wa fun zs e => by rw [hx] at e; cases e
  obtain ⟨er3, s3⟩ := er.write (H' := upd H ad (.lst vs)) (d' := .lst ds) ho ea (fun b o hb n => by rw [upd_ne n]; exact hb) ⟨_, upd_same, r1.step st⟩
  refine ⟨.ref ad, ea, .inl ⟨rfl, _, SqL.of hx⟩, ad, _, v, rfl, rfl, hx, by simp, ?_⟩
  rw [List.dropLast_concat]
  exact q v _ _ s3 er3 (r2.step st)
theorem q_popE {δ : DEnv} {Q : D → DEnv → Prop} {E : XC} : dPopE i δ Q E = ownLK δ i fun xs => ∃ ds d, xs = ds ++ [d] ∧ putK δ i (.lst ds) (Q d) := by
  apply propext
  constructor
  · rintro ⟨ds, d, h1, h2⟩; exact ⟨_, h1, ds, d, rfl, h2⟩
  · rintro ⟨_, h1, ds, d, rfl, h2⟩; exact ⟨ds, d, h1, h2⟩
def dPopAt (i : Nat) (f : DE) : DE := fun δ Q E => (∃ d, ownAt δ i = some (.lst d)) ∧ f δ (fun j δ1 => ∃ ds, ownAt δ1 i = some (.lst ds) ∧ ∃ (n : Nat) (d : D), j = .int (n : Int) ∧ ds[n]? = some d ∧ n < 2 ^ 62 ∧ Q d (putAt δ1 i (.lst (ds.eraseIdx n)))) E
theorem Reps.erase {K : PySem.W.Frag} {W : AS} {H : Hp} : ∀ {ds : List D} {xs : List V} (n : Nat), Reps K W H xs ds → Reps K W H (xs.eraseIdx n) (ds.eraseIdx n)
  | [], _, n, h => by cases h; exact .nil
  | e :: ds, _, 0, h => by cases h with | cons a b => exact b
  | e :: ds, _, n + 1, h => by cases h with | cons a b => exact .cons a (Reps.erase n b)
theorem pd_popAt {apos : Pos} (h : PE X (.Name x p) (tVar i)) (ha : PD X B wx a f) (mc : MCall X (.Name x p) "pop" [a] apos pos := by exact ⟨rfl, rfl, rfl⟩) (he : starEach [a] X.env = (false, eval a X.env) :: starEach [] X.env := by rfl) (hpl : (backTo pos (starEach [] X.env)).any (·.1) = false := by rfl) : PD X B wx (.Call (.Attribute (.Name x p) "pop" apos) [a] [] pos) (dPopAt i f) := by
  have hr := pe_bm (X := X) (cpos := pos) (apos := apos) PySem.F.plainAttrs_list PySem.F.slot_list_pop PySem.F.type_list_pop mt_popAt h (pa_cons ha.run pa_nil he) mc.1 mc.2.1 mc.2.2 he hpl
  refine ⟨fun δ Q Q' E E' k ke h => ⟨h.1, ha.mono _ _ _ _ _ (fun j δ1 ⟨ds, h0, n, d, h1, h2, h3, h4⟩ => ⟨ds, h0, n, d, h1, h2, h3, k _ _ h4⟩) ke h.2⟩, pe_imp hr fun σ H Q ⟨W, δ, er, ⟨d0, ho⟩, q⟩ => ?_⟩
  obtain ⟨ad, ea, wa, o0, _⟩ := er.ownAt ho
  have ty0 : ∃ xs, SqL X.K H ad xs := by obtain ⟨xs, hx, _⟩ := o0; exact ⟨xs, SqL.of hx⟩
  refine ⟨.ref ad, ea, .inl ⟨rfl, ty0⟩, W, δ, er, ha.mono _ _ _ _ _ (fun j δ1 h1 v1 H1 W1 s1 er1 r1 => ?_) (fun _ _ z => z) q⟩
  obtain ⟨ds, ho2, n, d, rfl, hn, n62, h2⟩ := h1
  cases r1
  obtain ⟨ad', ea', wa', ⟨xs, hx, rs⟩, _⟩ := er1.ownAt ho2
  rw [ea] at ea'; cases ea'
  obtain ⟨v, hv, rv⟩ := rs.get hn
  have hl : n < xs.length := (List.getElem?_eq_some_iff.mp hv).1
  have st : Step W1 H1 W1 (upd H1 ad (.lst (xs.eraseIdx n))) := .write wa' fun zs e => by rw [hx] at e; cases e
  obtain ⟨er3, s3⟩ := er1.write (H' := upd H1 ad (.lst (xs.eraseIdx n))) (d' := .lst (ds.eraseIdx n)) ho2 ea (fun b o hb n => by rw [upd_ne n]; exact hb) ⟨_, upd_same, (rs.erase n).step st⟩
  refine ⟨ad, xs, n, n, v, rfl, rfl, hx, by omega, by omega, ?_, hv, h2 v _ _ (s1.trans s3) er3 (rv.step st)⟩
  have e : seqIndex? (n : Int) xs.length = some ((n : Int)).toNat := by
    unfold seqIndex?
    have h1 : ¬ ((n : Int) < 0) := by omega
    have h2 : (n : Int) < (xs.length : Int) := by omega
    simp [h1, h2]
  rw [e, Int.toNat_natCast]
theorem q_popAt {δ : DEnv} {Q : D → DEnv → Prop} {E : XC} : dPopAt i f δ Q E = ownLK δ i fun _ => f δ (fun j δ1 => ownLK δ1 i fun ds => ∃ (n : Nat) (d : D), j = .int (n : Int) ∧ ds[n]? = some d ∧ n < 2 ^ 62 ∧ putK δ1 i (.lst (ds.eraseIdx n)) (Q d)) E := by
  unfold dPopAt
  rw [ownLK_ex]
  rfl
end
end DL

namespace DL
open PySem PySem.Spec PyProof.Rows L2
/-! ### raise C(e), C's own __init__ keeping e in the field at -/
section
variable {X : Cx} {e : Expr} {es : List Expr} {ta : TA} {p1 p2 pos : Pos} {y : Str} {C0 : Addr}
/-- Base.__init__(self, ..), Base an own class under ValueError -/
theorem pe_cinit {pl : Sem Bool} (hg : Gl X y) (hm : X.mg y = some (.ref C0)) (hs : PySem.W.specialIn X.K (.ref C0) "__getattribute__" = some (some (.builtin "type.__getattribute__"))) (hr : PySem.W.readsIn X.K C0 (.type "type") = true)
    (vV : PySem.W.findCls X.K (.ref C0) (.type "type") "__init__" = some (.val (.builtin "ValueError.__init__"))) (ha : PA X (e :: es) ta)
    (hc : eval (.Call (.Attribute (.Name y p1) "__init__" p2) (e :: es) [] pos) X.env = (do
      let ov ← eval (.Name y p1) X.env
      standAt p2.atName
      let (f, first) ← holding [ov] (getMethod ov "__init__" pl)
      callWith pos f first (backTo pos (starEach (e :: es) X.env)) (backToKw pos (keywordEach [] X.env))) := by rfl)
    (hdb : (y == ("__debug__" : Str)) = false := by decide) (he : starEach (e :: es) X.env = (false, eval e X.env) :: starEach es X.env := by rfl) (hpl : (backTo pos (starEach es X.env)).any (·.1) = false := by rfl) :
    PE X (.Call (.Attribute (.Name y p1) "__init__" p2) (e :: es) [] pos) (tVeI X.K ta) := by
  refine ⟨fun pins s σ H Q I h => ?_⟩
  refine PySem.W.methodCall_KW (ld_glob I hg hm ?_ hdb) hc
  refine PySem.W.method_cls I.kIn hs (PySem.W.cls_value I.kIn hr vV (by decide +kernel) ?_)
  show wpAny _ _ (callWith pos (Value.builtin "ValueError.__init__") [] (backTo pos (starEach (e :: es) X.env)) []) _ _ _
  refine PyProof.Rows.callWith_method1 (thn (ha.run pos pins _ σ H _ (I.tok _) h) fun us s1 ⟨vs, H1, I1, r1, a, C, ws, ev, hl, T, ea, q⟩ => ?_) he hpl
  subst ev
  cases r1 with
  | @cons _ u0 _ ur ra rw' =>
    obtain rfl : u0 = Value.ref a := ra
    have hlen : ur.length ≤ sizeLine := by
      rw [← Paired.length rw', sizeLine_eq]
      omega
    exact oinit_ok T I1 ea hlen fun s' J => ⟨.non, H1, J, rfl, q⟩
end
/-- the statements of a class -/
def clsBody (s : Stmt) : List Stmt := match s with
  | .ClassDef _ _ _ b _ _ _ _ _ _ _ => b
  | _ => []
/-- what the written part must say -/
structure Nos (K : PySem.W.Frag) (c b : Str) : Prop where
  oex : OexC K (He.ga K c)
  ini : PySem.W.findIn K (.ref (He.ga K c)) "__init__" = some (some (.ref (He.ma K (He.ga K c) "__init__")))
  fn : PySem.W.typeIn K (.ref (He.ma K (He.ga K c) "__init__")) = some (.type "function")
  at_ : PySem.W.findIn K (.ref (He.ga K c)) "at" = some Option.none
  sp : PySem.W.specialIn K (.ref (He.ga K b)) "__getattribute__" = some (some (.builtin "type.__getattribute__"))
  rd : PySem.W.readsIn K (He.ga K b) (.type "type") = true
  vv : PySem.W.findCls K (.ref (He.ga K b)) (.type "type") "__init__" = some (.val (.builtin "ValueError.__init__"))
def oexB (K : PySem.W.Frag) (C : Addr) : Bool := match K.lookup C with
  | some ⟨.type "type", _, .cls cd, sl⟩ => (match cd.mro, sl.toList with
    | .ref C' :: bm, [_, _, _, _, some (.builtin n), _] => C' == C && n == "ValueError.__new__" && !cd.hasDel && cd.hasDict && PySem.HandSPX.refsVE bm
    | _, _ => false)
  | _ => false
def isVal (o : Option PySem.W.CFound) (v : Value) : Bool := match o with
  | some (.val u) => u == v
  | _ => false
def nosB (K : PySem.W.Frag) (c b : Str) : Bool := oexB K (He.ga K c) && (He.eqO (PySem.W.findIn K (.ref (He.ga K c)) "__setattr__") (some (some (.builtin "object.__setattr__"))) && (decide (PySem.W.subIn K (.ref (He.ga K c)) (.type "BaseException") = some true) && (decide (PySem.W.typeIn K (.ref (He.ga K c)) = some (.type "type")) && (PySem.W.keepIn K (.ref (He.ga K c)) &&
  (He.eqO (PySem.W.findIn K (.ref (He.ga K c)) "__init__") (some (some (.ref (He.ma K (He.ga K c) "__init__")))) && (decide (PySem.W.typeIn K (.ref (He.ma K (He.ga K c) "__init__")) = some (.type "function")) && (He.eqO (PySem.W.findIn K (.ref (He.ga K c)) "at") (some Option.none) &&
  (He.eqO (PySem.W.specialIn K (.ref (He.ga K b)) "__getattribute__") (some (some (.builtin "type.__getattribute__"))) && (PySem.W.readsIn K (He.ga K b) (.type "type") && isVal (PySem.W.findCls K (.ref (He.ga K b)) (.type "type") "__init__") (.builtin "ValueError.__init__"))))))))))
theorem oexB_ok {K : PySem.W.Frag} {C : Addr} (q : oexB K C = true) : ∃ nm q N bs bm sn sub ab col dd k0 k1 k2 k3 k5, K.lookup C = some (excClassObj nm q C N bs bm true sn sub ab col dd k0 k1 k2 k3 k5 "ValueError.__new__") ∧ PySem.HandSPX.refsVE bm = true := by
  unfold oexB at q
  split at q
  · rename_i dd cd sl ho
    split at q
    · rename_i C' bm k0 k1 k2 k3 n k5 hm hs
      simp only [Bool.and_eq_true, beq_iff_eq, Bool.not_eq_true'] at q
      obtain ⟨⟨⟨⟨rfl, rfl⟩, hdel⟩, hd⟩, hbm⟩ := q
      obtain ⟨nm, bs, mro, ns, qn, hdc, sn, sub, ab, col, del⟩ := cd
      dsimp only at hm hdel hd
      subst hm hdel hd
      have hsl : sl = #[k0, k1, k2, k3, some (.builtin "ValueError.__new__"), k5] := by
        obtain ⟨l⟩ := sl
        simp only at hs
        rw [hs]
      subst hsl
      exact ⟨nm, qn, ns, bs, bm, sn, sub, ab, col, dd, k0, k1, k2, k3, k5, ho, hbm⟩
    · cases q
  · cases q
theorem nosB_ok {K : PySem.W.Frag} {c b : Str} (h : nosB K c b = true) : Nos K c b := by
  obtain ⟨h1, h⟩ := He.ba h
  obtain ⟨h2, h⟩ := He.ba h
  obtain ⟨h3, h⟩ := He.ba h
  obtain ⟨h4, h⟩ := He.ba h
  obtain ⟨h5, h⟩ := He.ba h
  obtain ⟨h6, h⟩ := He.ba h
  obtain ⟨h7, h⟩ := He.ba h
  obtain ⟨h8, h⟩ := He.ba h
  obtain ⟨h9, h⟩ := He.ba h
  obtain ⟨h10, h11⟩ := He.ba h
  refine ⟨⟨oexB_ok h1, He.eqO_ok h2, of_decide_eq_true h3, of_decide_eq_true h4, h5⟩, He.eqO_ok h6, of_decide_eq_true h7, He.eqO_ok h8, He.eqO_ok h9, h10, ?_⟩
  unfold isVal at h11
  split at h11
  · rename_i u e
    rw [e, beq_iff_eq.mp h11]
  · cases h11
/-- what __init__ keeps -/
def spI (K : PySem.W.Frag) (C : Addr) : Sp := fun vs H Q _ => ∃ (a : Addr) (v : V), vs = [.ref a, v] ∧ H a = some (exo a C Option.none) ∧ ∀ dx, H dx = Option.none → dx ≠ a → Q .non (upd (upd H dx (exd dx [("at", v)])) a (exo a C (some dx)))
section
variable {P : Program} {w : World} {K : PySem.W.Frag} {mg : Str → Option Value} {base : Heap} {x qual m : Str} {params : Arguments} {body : List Stmt} {scope : Scope} {f : Addr} {fd : FuncData} {k : Nat} {C : Addr}
theorem fnI_ok (F : FunD K x qual params body scope [] [] f fd) (S : FnScope ["self", "at"] ["self", "at"] scope) (T : OexC K C) (ha : PySem.W.findIn K (.ref C) "at" = some Option.none)
    (hd : ∀ (cdv : Value) (A : Around) (outer : List Env) (s : Shared) (H : Hp) (E : XK), PSs (cxOf CX0 P w K mg base ["self", "at"] qual scope f cdv A outer s H E) body (tSeq (tDrop (tVeI K (tCons (tVar 0) (tCons (tC (.str m)) tNil)))) (tOst K "at" (tVar 0) (tVar 1)))) :
    FnOk P w K mg base CX0 (k + 1) f fd ["self", "at"] (spI K C) := by
  refine F.ok S (fun vs H Q E ⟨a, v, e, _⟩ => by rw [e]; rfl) fun cdv A outer s H vs Q E hr h => ?_
  obtain ⟨a, v, rfl, ea, q⟩ := h
  exact ⟨_, hd cdv A outer s H E, .ref a, rfl, a, C, [.str m], rfl, by simp, T, ea, v, rfl, .ref a, rfl, a, C, rfl, T, ha, .inl ⟨ea, q⟩⟩
end
section
variable {X : Cx} {B : Bd} {wx : WX} {fr : Bool} {pos p p2 k' : Pos} {a : Expr} {f : DE} {n : Nat} {c b : Str}
def dRaiseA (c : Str) (f : DE) : DS := fun E δ => f δ (fun d δ1 => E.xx ⟨c, some d⟩ δ1) E.xx
/-- __init__ as a def -/
structure InitOk (P : Program) (w : World) (K : PySem.W.Frag) (mg : Str → Option Value) (base : Heap) (c : Str) : Prop where
  ex : ∃ fd, Binds K fd ["self", "at"] [] ∧ FnOk P w K mg base CX0 1 (He.ma K (He.ga K c) "__init__") fd ["self", "at"] (spI K (He.ga K c))
theorem psd_raiseA (hc : X.calm = true) (tk : Takes X wx) (N : Nos X.K c b) (CI : InitOk X.prog X.w X.K X.mg X.base c) (hr : Room n X.A) (hn : 2 ≤ n) (gC : X.mg c = some (.ref (He.ga X.K c))) (hg : Gl X c) (ha : PD X B wx a f)
    (hdb : (c == ("__debug__" : Str)) = false := by decide) (he : starEach [a] X.env = (false, eval a X.env) :: starEach [] X.env := by rfl) (hpl : (backTo pos (starEach [] X.env)).any (·.1) = false := by rfl) :
    PSD X B wx fr (.Raise (some (.Call (.Name c p) [a] [] pos)) none k') (dRaiseA c f) := by
  obtain ⟨fd, hb, F1⟩ := CI.ex
  refine ⟨fun E E' δ le h => ha.mono _ _ _ _ _ (fun d δ1 h => le.xx _ _ h) le.xx h, ps_imp (ps_raise hc tk (pmk_oex N.oex N.ini N.fn F1 (hr.mono hn) hb .nil pass0 hg gC (pa_cons ha.run pa_nil he) hdb he hpl)) fun D σ H ⟨W, δ, er, q⟩ => ?_⟩
  refine ⟨W, δ, er, ha.mono _ _ _ _ _ (fun d δ1 h1 v H1 W1 s1 er1 r1 => ?_) (fun x δ1 h1 cc dd H1 W1 s1 er1 r1 => h1 cc dd σ H1 W1 s1 er1 r1) q⟩
  refine ⟨by simp, fun a na => ⟨a, v, rfl, upd_same, fun dx hdx ne => ⟨rfl, dx, [("at", v)], upd_same, ?_, ?_, ?_⟩⟩⟩
  · rw [upd_ne ne]; exact upd_same
  · rw [upd_ne ne] at hdx; exact hdx
  · rw [upd_ne ne] at hdx
    have sm : Same H1 (upd (del (upd (upd (upd H1 a (exo a (He.ga X.K c) none)) dx (exd dx [("at", v)])) a (exo a (He.ga X.K c) (some dx))) a) dx (.xd [("at", v)])) := fun b o hb' => by
      have n1 : b ≠ a := ne_of_none hb' na
      have n2 : b ≠ dx := ne_of_none hb' hdx
      rw [upd_ne n2, del_ne n1, upd_ne n1, upd_ne n2, upd_ne n1]
      exact hb'
    exact h1 _ _ _ _ _ (s1.trans (.same sm)) (er1.grow sm) ⟨rfl, dx, v, rfl, upd_same, not_trk er1.trk hdx, r1.step (.same sm)⟩
theorem q_raiseA {E : DEnds} {δ : DEnv} : dRaiseA c f E δ = f δ (fun d δ1 => E.xx ⟨c, some d⟩ δ1) E.xx := rfl
end
end DL

namespace DL
open PySem PySem.Spec PyProof.Rows L2
/-! ### raise C() -/
section
variable {X : Cx} {B : Bd} {wx : WX} {fr : Bool} {pos p p2 k' : Pos} {C : Addr} {bmB : List Value} {B0 newId initId : String}
theorem pmk_own0 {x : Str} (F : ExcBaseFacts B0 newId initId bmB) (q : PySem.W.excIn X.K C bmB newId = true) (gC : X.mg x = some (.ref C)) (kC : PySem.W.keepIn X.K (.ref C) = true) (r : Raises X (.ref C)) (hg : Gl X x)
    (hdb : (x == ("__debug__" : Str)) = false := by decide) : PMk X (.Call (.Name x p) [] [] pos) (fun _ H Q => Q (.ref C) Option.none H) := by
  intro pins s σ H Q I h
  refine wpAny_Call_Name_kw (ld_glob I hg gC ?_ hdb)
  refine PySem.W.callWith_K0 I.kIn kC ?_
  show wpAny _ _ (call (.ref C) []) _ _ _
  obtain ⟨bm, N, nm, qn, bs, hdct, sn, sub, ab, col, dd, k0, k1, k2, k3, k5, mN, hC, hN, hni, T⟩ := exc_obj I.kIn q
  refine wpAny_call_exc_subT F T hC hN hni (fun h' e hm => ?_) (Nat.zero_le _)
  exact mk_of I hm r h (I.hok.gone hm.new)
theorem psd_raise0 {y : Str} (hc : X.calm = true) (tk : Takes X wx) (q : PySem.W.excIn X.K (He.ga X.K y) He.veBase "ValueError.__new__" = true ∧ PySem.W.keepIn X.K (.ref (He.ga X.K y)) = true ∧ PySem.W.subIn X.K (.ref (He.ga X.K y)) (.type "BaseException") = some true ∧ PySem.W.typeIn X.K (.ref (He.ga X.K y)) = some (.type "type"))
    (gC : X.mg y = some (.ref (He.ga X.K y))) (hg : Gl X y) (hdb : (y == ("__debug__" : Str)) = false := by decide) : PSD X B wx fr (.Raise (some (.Call (.Name y p) [] [] pos)) none k') (dRaise y) := by
  refine ⟨fun E E' δ le h => le.xx _ _ h, ps_imp (ps_raise hc tk (pmk_own0 PySem.F.excBase_ValueError q.1 gC q.2.1 (raises_own q.2.2.1 q.2.2.2) hg hdb)) fun D σ H ⟨W, δ, er, h⟩ => ?_⟩
  exact h _ _ _ _ _ .refl er ⟨rfl, rfl⟩
end
/-! ### xs.count(y), xs.index(y) -/
section
variable {X : Cx}
def rCountD (K : PySem.W.Frag) : V → List V → Hp → VK → Prop := fun x xs H Q => ∃ (a : Addr) (y : V) (d : PyData) (ds : List PyData), x = V.ref a ∧ xs = [y] ∧ Dp K H (V.ref a) (.list ds) ∧ Dp K H y d ∧ SeqAt.shaped (.list ds) = true ∧ SeqAt.shaped d = true ∧ Q (.int (ds.countP fun z => PyData.eqv z d : Nat)) H
theorem mt_countD (hu : X.A.units + 65 < cLine) : MtR X "list.count" (rCountD X.K) := by
  intro pins s σ H x xs v us Q I rx rxs h
  obtain ⟨a, y, d, ds, rfl, rfl, hl, hy, sl, sd, q⟩ := h
  cases rx
  cases rxs with
  | cons ry rt =>
    rename_i uy ut
    cases rt
    obtain ⟨bs, r1⟩ := Dp.reads I d y uy hy ry
    have hxs : PyData.canLayAll0 ds = true := SeqAt.canLay_of_shaped sl
    have hroom : X.A.units + 1 + min (PyData.depthAll ds) d.depth < cLine := room_in_shaped sd hu
    cases hl with
    | lst hs ha =>
      obtain ⟨its, rv, ⟨⟨cls, dd, data, sls⟩, n, ho, hc, hdn, hdt⟩, hlen⟩ := I.list hs
      simp only at hc hdt
      subst hc hdt
      obtain ⟨as, h4⟩ := Dp.readsAll I ds _ its ha rv
      have hmap : its.map (SeqAt.readOf s.heap) = ds := SeqAt.readsAll_map ds its as hxs h4
      refine call_meets PySem.F.slot_list_count ⟨_, ho, rfl⟩ PySem.F.entry_list_count (PySem.F.args_list_count_2 _ _)
        (SeqAt.list_countAt a its.toArray n dd sls uy (fun u => PyData.eqv (SeqAt.readOf s.heap u) d)) ⟨ho, SeqAt.items_eqAt (vs := its.toArray) (show ReadsAll s.heap its.toArray.toList ds as from h4) r1 hxs (SeqAt.canLay_of_shaped sd) hroom, ?_⟩
      have ec : its.toArray.toList.countP (fun u => PyData.eqv (SeqAt.readOf s.heap u) d) = ds.countP fun z => PyData.eqv z d := by
        rw [← hmap, List.countP_map]; rfl
      refine ⟨.int _, H, I.tok _, ⟨s.toks, ?_⟩, q⟩
      show Value.int ((its.toArray.toList.countP (fun u => PyData.eqv (SeqAt.readOf s.heap u) d) : Nat) : Int) s.toks = Value.int _ s.toks
      rw [ec]
end
section
variable {X : Cx} {B : Bd} {wx : WX} {pos p : Pos} {a b : Expr} {f1 f2 : DE} {n : Nat}
def gCnt : G2 := fun x y Q => ∃ ds, x = .lst ds ∧ shp (.lst ds) = true ∧ shp y = true ∧ Q (.int (ds.countP fun z => eqd z y : Nat))
def gIdx : G2 := fun x y Q => ∃ ds, x = .lst ds ∧ shp (.lst ds) = true ∧ shp y = true ∧ ∃ (j : Nat) (z : D), ds[j]? = some z ∧ eqd z y = true ∧ (∀ (m : Nat) (z' : D), m < j → ds[m]? = some z' → eqd z' y = false) ∧ Q (.int (j : Nat))
theorem toPs_get {ds : List D} {j : Nat} {z : PyData} (h : (toPs ds)[j]? = some z) : ∃ d, ds[j]? = some d ∧ z = toP d := by
  rw [toPs_map, List.getElem?_map, Option.map_eq_some_iff] at h
  obtain ⟨d, e, rfl⟩ := h
  exact ⟨d, e, rfl⟩
theorem pd_meth2 {m : Str} {g : G2} {r : V → List V → Hp → VK → Prop} {apos : Pos} (hp : PE X (.Call (.Attribute a m apos) [b] [] pos) (tBM X.K "list" r (liftE X.K B wx f1) (tCons (liftE X.K B wx f2) tNil))) (m1 : Mono f1) (m2 : Mono f2)
    (mg : ∀ d e (Q Q' : D → Prop), (∀ z, Q z → Q' z) → g d e Q → g d e Q') (ty : ∀ d e Q, g d e Q → ∃ ds, d = .lst ds)
    (run : ∀ W H x y d e Q, Rep X.K W H x d → Rep X.K W H y e → g d e (Gw X.K W H Q) → r x [y] H Q) : PD X B wx (.Call (.Attribute a m apos) [b] [] pos) (fun δ Q E => f1 δ (fun x δ1 => (∃ ds, x = .lst ds) ∧ f2 δ1 (fun y δ2 => g x y fun z => Q z δ2) E) E) := by
  refine ⟨fun δ Q Q' E E' k ke h => m1 _ _ _ _ _ (fun x δ1 ⟨t, h⟩ => ⟨t, m2 _ _ _ _ _ (fun y δ2 h => mg _ _ _ _ (fun z h => k _ _ h) h) ke h⟩) ke h, pe_imp hp fun σ H Q ⟨W, δ, er, q⟩ => ?_⟩
  refine ⟨W, δ, er, m1 _ _ _ _ _ (fun x δ1 h1 v1 H1 W1 s1 er1 r1 => ?_) (fun _ _ z => z) q⟩
  obtain ⟨⟨ds, rfl⟩, h1⟩ := h1
  have ty0 : tyV X.K "list" v1 H1 := by
    cases r1 with
    | lst l rs => exact .inl ⟨rfl, _, l.sq⟩
  refine ⟨ty0, W1, δ1, er1, m2 _ _ _ _ _ (fun y δ2 h2 v2 H2 W2 s2 er2 r2 => ?_) (fun _ _ z => z.step s1) h1⟩
  exact run W2 H2 _ _ _ _ _ (r1.step s2) r2 (mg _ _ _ _ (fun z hz v H3 sm rz => hz v H3 W2 ((s1.trans s2).trans (.same sm)) (er2.grow sm) rz) h2)
def dMeth (g : G2) (f1 f2 : DE) : DE := fun δ Q E => f1 δ (fun x δ1 => (∃ ds, x = .lst ds) ∧ f2 δ1 (fun y δ2 => g x y fun z => Q z δ2) E) E
theorem pd_count {apos : Pos} (hr : Room n X.A) (ha : PD X B wx a f1) (hb : PD X B wx b f2) (mc : MCall X a "count" [b] apos pos := by exact ⟨rfl, rfl, rfl⟩) (he : starEach [b] X.env = (false, eval b X.env) :: starEach [] X.env := by rfl) (hpl : (backTo pos (starEach [] X.env)).any (·.1) = false := by rfl) :
    PD X B wx (.Call (.Attribute a "count" apos) [b] [] pos) (dMeth gCnt f1 f2) :=
  pd_meth2 (pe_bm (X := X) (cpos := pos) (apos := apos) PySem.F.plainAttrs_list PySem.F.slot_list_count PySem.F.type_list_count (mt_countD (units65 hr)) ha.run (pa_cons hb.run pa_nil he) mc.1 mc.2.1 mc.2.2 he hpl) ha.mono hb.mono
    (fun d e Q Q' k ⟨ds, h0, h1, h2, h3⟩ => ⟨ds, h0, h1, h2, k _ h3⟩) (fun d e Q ⟨ds, h0, _⟩ => ⟨ds, h0⟩) fun W H x y d e Q rx ry ⟨ds, h0, h1, h2, h3⟩ => by
      subst h0
      cases rx with
      | lst l rs =>
        refine ⟨_, y, toP e, toPs ds, rfl, rfl, ?_, ry.dp (SeqAt.canLay_of_shaped h2), ?_, h2, ?_⟩
        · have := (Rep.lst l rs).dp (SeqAt.canLay_of_shaped h1)
          simpa only [toP] using this
        · have : SeqAt.shaped (toP (.lst ds)) = true := h1
          simpa only [toP] using this
        · rw [toPs_map, List.countP_map]
          exact h3 _ H (Same.refl H) (.int _)
theorem pd_index {apos : Pos} (hr : Room n X.A) (ha : PD X B wx a f1) (hb : PD X B wx b f2) (mc : MCall X a "index" [b] apos pos := by exact ⟨rfl, rfl, rfl⟩) (he : starEach [b] X.env = (false, eval b X.env) :: starEach [] X.env := by rfl) (hpl : (backTo pos (starEach [] X.env)).any (·.1) = false := by rfl) :
    PD X B wx (.Call (.Attribute a "index" apos) [b] [] pos) (dMeth gIdx f1 f2) :=
  pd_meth2 (pe_bm (X := X) (cpos := pos) (apos := apos) PySem.F.plainAttrs_list PySem.F.slot_list_index PySem.F.type_list_index (mt_indexD (units65 hr)) ha.run (pa_cons hb.run pa_nil he) mc.1 mc.2.1 mc.2.2 he hpl) ha.mono hb.mono
    (fun d e Q Q' k ⟨ds, h0, h1, h2, j, z, h3, h4, h5, h6⟩ => ⟨ds, h0, h1, h2, j, z, h3, h4, h5, k _ h6⟩) (fun d e Q ⟨ds, h0, _⟩ => ⟨ds, h0⟩) fun W H x y d e Q rx ry ⟨ds, h0, h1, h2, j, z, h3, h4, h5, h6⟩ => by
      subst h0
      cases rx with
      | lst l rs =>
        refine ⟨_, y, toP e, toPs ds, j, toP z, rfl, rfl, ?_, ry.dp (SeqAt.canLay_of_shaped h2), ?_, h2, ?_, h4, fun m z' hm hz' => ?_, h6 _ H (Same.refl H) (.int _)⟩
        · have := (Rep.lst l rs).dp (SeqAt.canLay_of_shaped h1)
          simpa only [toP] using this
        · have : SeqAt.shaped (toP (.lst ds)) = true := h1
          simpa only [toP] using this
        · rw [toPs_map, List.getElem?_map, h3]; rfl
        · obtain ⟨d', e1, rfl⟩ := toPs_get hz'
          exact h5 m d' hm e1
theorem q_meth {g : G2} {δ : DEnv} {Q : D → DEnv → Prop} {E : XC} : dMeth g f1 f2 δ Q E = f1 δ (fun x δ1 => (∃ ds, x = .lst ds) ∧ f2 δ1 (fun y δ2 => g x y fun z => Q z δ2) E) E := rfl
theorem ex_isl {ds : List D} {p : Prop} : ((∃ xs, D.lst ds = .lst xs) ∧ p) = p := by simp
theorem q_lcnt {ds : List D} {y : D} {P : D → Prop} : gCnt (.lst ds) y P = (shp (.lst ds) = true ∧ shp y = true ∧ P (.int (ds.countP fun z => eqd z y : Nat))) := propext ⟨fun ⟨_, e, h⟩ => by cases e; exact h, fun h => ⟨_, rfl, h⟩⟩
theorem q_lidx {ds : List D} {y : D} {P : D → Prop} : gIdx (.lst ds) y P = (shp (.lst ds) = true ∧ shp y = true ∧ ∃ (j : Nat) (z : D), ds[j]? = some z ∧ eqd z y = true ∧ (∀ (m : Nat) (z' : D), m < j → ds[m]? = some z' → eqd z' y = false) ∧ P (.int (j : Nat))) := propext ⟨fun ⟨_, e, h⟩ => by cases e; exact h, fun h => ⟨_, rfl, h⟩⟩
end
end DL

namespace DL
open PySem PySem.Spec PyProof.Rows L2
/-- the head's facts, with one more look, and the statics too (a class's own names are read) -/
def hookC (n : Nat) (xb : PySem.W.Frag → Bool) (fa : List He.Fa) (fn : List He.DefD) : PySem.W.Hook where
  α := Bool × He.AlD
  obs := fun s => (xb (He.frG s.heap.get? (He.asD s.heap.get? n ++ [cStatics])), He.obsD fa fn (He.frG s.heap.get? (He.asD s.heap.get? n ++ [cStatics])))
  val := fun _ => (true, He.valD fn)
  says := fun _ h => ∃ K : PySem.W.Frag, K.In h ∧ xb K = true ∧ He.SaysD fa fn K
  of := fun _ _ e => ⟨_, He.frG_in, congrArg (fun z : Bool × He.AlD => z.1) e, congrArg (fun z : Bool × He.AlD => z.2) e⟩
  keeps := fun _ _ _ ⟨K, hK, b, c⟩ k => ⟨K, PySem.W.Frag.In.keeps hK k, b, c⟩
def obC (n : Nat) (xb : PySem.W.Frag → Bool) (fa : List He.Fa) (fn : List He.DefD) (g : Addr → Option Obj) : Bool × He.AlD :=
  let K := He.frG g (He.asD g n ++ [cStatics])
  (xb K, He.obsD fa fn K)
theorem obC_eq {n : Nat} {xb : PySem.W.Frag → Bool} {fa : List He.Fa} {fn : List He.DefD} {g : Addr → Option Obj} {s : Shared} (h : ∀ a, g a = s.heap.get? a) : obC n xb fa fn g = (hookC n xb fa fn).obs s := by
  have e : g = s.heap.get? := funext h
  subst e
  rfl
end DL
namespace G
open PySem PySem.Spec PyProof.Rows L2 DL
theorem Zb.rg {x : Int} (h : -(2 ^ 200) < x ∧ x < 2 ^ 200) : Zb 200 x := by
  show x.natAbs < 2 ^ 200
  omega
theorem Zb.lit {x : Int} (h : Zb 64 x) : Zb 64 x := h
theorem Zb.fm {x m : Int} (h : 0 < m ∧ Zb 64 m) : Zb 64 (x.fmod m) := by
  have h1 := Int.fmod_nonneg_of_pos x h.1
  have h2 := Int.fmod_lt_of_pos x h.1
  exact Zb.le h.2 (by omega)
/-- the size of an int that is built by + - * -/
local macro_rules | `(tactic| walk_at "zb") => `(tactic| repeat (first | with_reducible assumption | with_reducible apply Zb.mul | with_reducible apply Zb.add | with_reducible apply Zb.sub | with_reducible apply Zb.neg | with_reducible exact Zb.fm (by decide) | with_reducible exact Zb.lit (by decide) | with_reducible exact Zb.rg (by omega)))
local macro_rules | `(tactic| walk_at "cm") => `(tactic| (with_reducible apply cmul; walk_at "zb"; decide))
/-- one side -/
local macro_rules | `(tactic| walk_at "cq") => `(tactic| (with_reducible apply csq; walk_at "zb"; decide))
local macro_rules | `(tactic| walk_at "sd") => `(tactic| first | with_reducible assumption | walk_at "cm" | walk_at "cq" | ((with_reducible apply cdiv (n := 64)) <;> decide) | omega | decide | with_unfolding_all rfl)
/-- the sides, up to one that is left -/
local macro_rules | `(tactic| walk_at "sides") => `(tactic| repeat (with_reducible refine And.intro (by walk_at "sd") ?_))
/-- three numbers -/
abbrev P3 (x y w : Int) : D := .tup [.int x, .int y, .int w]
abbrev P2 (x y : Int) : D := .tup [.int x, .int y]
/-- a draw -/
local macro_rules | `(tactic| walk_at "nx") => `(tactic| (refine ⟨_, _, by assumption, by omega, rfl, by omega, Zb.mono (n := 200) (Zb.rg (by omega)) (by decide), fun r d' h1 h2 hf => ?_⟩; walk_at "dl"))
local macro_rules | `(tactic| walk_at "zm") => `(tactic| (with_reducible apply Zb.mono; walk_at "zb"; decide))
local macro_rules | `(tactic| walk_at "go") => `(tactic| repeat (first | walk_at "dl" | with_reducible refine And.intro (by walk_at "sd") ?_))
local macro_rules | `(tactic| walk_at "gn") => `(tactic| repeat (first | walk_at "dn" | with_reducible refine And.intro (by walk_at "sd") ?_))

/-! ### lowest terms -/
def g3 (x y w : Int) : Nat := Int.gcd (Int.gcd x y) w
def by3 (x y w : Int) : Int := if w < 0 then 0 - (g3 x y w : Int) else (g3 x y w : Int)
def by2 (x w : Int) : Int := if w < 0 then 0 - (Int.gcd x w : Int) else (Int.gcd x w : Int)
theorem by3_abs (x y w : Int) : (by3 x y w).natAbs = g3 x y w := by unfold by3; split <;> omega
theorem by2_abs (x w : Int) : (by2 x w).natAbs = Int.gcd x w := by unfold by2; split <;> omega
theorem g3_pos {x y w : Int} (h : w ≠ 0) : 0 < g3 x y w := Int.gcd_pos_of_ne_zero_right _ h
theorem by3_ne {x y w : Int} (h : w ≠ 0) : by3 x y w ≠ 0 := by
  have := by3_abs x y w
  have := g3_pos (x := x) (y := y) h
  omega
theorem by2_ne {x w : Int} (h : w ≠ 0) : by2 x w ≠ 0 := by
  have := by2_abs x w
  have : 0 < Int.gcd x w := Int.gcd_pos_of_ne_zero_right _ h
  omega
theorem dvd_of_natAbs {a b : Int} (h : a.natAbs ∣ b.natAbs) : a ∣ b := Int.natAbs_dvd_natAbs.mp h
theorem by3_dx (x y w : Int) : by3 x y w ∣ x := dvd_of_natAbs (by
  rw [by3_abs]
  exact Nat.dvd_trans (Int.gcd_dvd_natAbs_left _ _) (by simpa using Int.gcd_dvd_natAbs_left x y))
theorem by3_dy (x y w : Int) : by3 x y w ∣ y := dvd_of_natAbs (by
  rw [by3_abs]
  exact Nat.dvd_trans (Int.gcd_dvd_natAbs_left _ _) (by simpa using Int.gcd_dvd_natAbs_right x y))
theorem by3_dw (x y w : Int) : by3 x y w ∣ w := dvd_of_natAbs (by rw [by3_abs]; exact Int.gcd_dvd_natAbs_right _ _)
theorem by2_dx (x w : Int) : by2 x w ∣ x := dvd_of_natAbs (by rw [by2_abs]; exact Int.gcd_dvd_natAbs_left _ _)
theorem by2_dw (x w : Int) : by2 x w ∣ w := dvd_of_natAbs (by rw [by2_abs]; exact Int.gcd_dvd_natAbs_right _ _)
theorem by3_le {x y w : Int} (h : w ≠ 0) : (by3 x y w).natAbs ≤ w.natAbs := by
  rw [by3_abs]; exact Int.gcd_le_natAbs_right _ h
theorem by2_le {x w : Int} (h : w ≠ 0) : (by2 x w).natAbs ≤ w.natAbs := by
  rw [by2_abs]; exact Int.gcd_le_natAbs_right _ h
/-- a quotient of two numbers of one sign is above 0 -/
theorem pos_quot {s w : Int} (hw : w ≠ 0) (d : s ∣ w) (sg : w < 0 ↔ s < 0) (hs : s ≠ 0) : 0 < w / s := by
  obtain ⟨k, rfl⟩ := d
  rw [Int.mul_ediv_cancel_left _ hs]
  rcases Int.lt_trichotomy k 0 with h | h | h
  · exfalso
    rcases Int.lt_or_gt_of_ne hs with h2 | h2
    · have := Int.mul_pos_of_neg_of_neg h2 h
      have := sg.mpr h2
      omega
    · have := Int.mul_neg_of_pos_of_neg h2 h
      have := sg.mp this
      omega
  · subst h; simp at hw
  · exact h
theorem by3_w {x y w : Int} (h : w ≠ 0) : 0 < w / by3 x y w := pos_quot h (by3_dw x y w) (by
  have := g3_pos (x := x) (y := y) h
  unfold by3; split <;> omega) (by3_ne h)
theorem by2_w {x w : Int} (h : w ≠ 0) : 0 < w / by2 x w := pos_quot h (by2_dw x w) (by
  have : 0 < Int.gcd x w := Int.gcd_pos_of_ne_zero_right _ h
  unfold by2; split <;> omega) (by2_ne h)
theorem by3_eqx {x y w : Int} : x / by3 x y w * w = x * (w / by3 x y w) := by
  rw [← Int.mul_ediv_assoc _ (by3_dw x y w), Int.mul_comm (x / _) w, ← Int.mul_ediv_assoc _ (by3_dx x y w), Int.mul_comm]
theorem by3_eqy {x y w : Int} : y / by3 x y w * w = y * (w / by3 x y w) := by
  rw [← Int.mul_ediv_assoc _ (by3_dw x y w), Int.mul_comm (y / _) w, ← Int.mul_ediv_assoc _ (by3_dy x y w), Int.mul_comm]
theorem by2_eqx {x w : Int} : x / by2 x w * w = x * (w / by2 x w) := by
  rw [← Int.mul_ediv_assoc _ (by2_dw x w), Int.mul_comm (x / _) w, ← Int.mul_ediv_assoc _ (by2_dx x w), Int.mul_comm]
theorem by3_gcd {x y w : Int} (h : w ≠ 0) : g3 (x / by3 x y w) (y / by3 x y w) (w / by3 x y w) = 1 := by
  have hp := g3_pos (x := x) (y := y) h
  have e1 : Int.gcd (x / by3 x y w) (y / by3 x y w) = Int.gcd x y / g3 x y w := by rw [Int.gcd_ediv (by3_dx x y w) (by3_dy x y w), by3_abs]
  have e2 : (w / by3 x y w).natAbs = w.natAbs / g3 x y w := by rw [Int.natAbs_ediv_of_dvd (by3_dw x y w), by3_abs]
  show Nat.gcd (Int.natAbs (Int.gcd (x / by3 x y w) (y / by3 x y w) : Int)) (w / by3 x y w).natAbs = 1
  rw [Int.natAbs_natCast, e1, e2, Nat.gcd_div (show g3 x y w ∣ Int.gcd x y from Int.gcd_dvd_natAbs_left (Int.gcd x y : Int) w) (Int.gcd_dvd_natAbs_right _ _)]
  have : Nat.gcd (Int.gcd x y) w.natAbs = g3 x y w := rfl
  rw [this]
  exact Nat.div_self hp
theorem by2_gcd {x w : Int} (h : w ≠ 0) : Int.gcd (x / by2 x w) (w / by2 x w) = 1 := by
  have hp : 0 < Int.gcd x w := Int.gcd_pos_of_ne_zero_right _ h
  rw [Int.gcd_ediv (by2_dx x w) (by2_dw x w), by2_abs]
  exact Nat.div_self hp
theorem Zb.quot {n : Nat} {x s : Int} (h : Zb n x) : Zb n (x / s) := h.le (Int.natAbs_ediv_le_natAbs x s)
/-- the point, the fraction in lowest terms -/
abbrev ptD (x y w : Int) : D := P3 (x / by3 x y w) (y / by3 x y w) (w / by3 x y w)
abbrev frD (x w : Int) : D := P2 (x / by2 x w) (w / by2 x w)

/-! ### sizes of points -/
def Z3 (a b c : Int) : Prop := Zb 20000 a ∧ Zb 20000 b ∧ Zb 20000 c
def Z2 (a b : Int) : Prop := Zb 20000 a ∧ Zb 20000 b
def ahB (a b c x y z : Int) : Bool := if a * z = x * c then decide (b * z < y * c) else decide (a * z < x * c)
def twI (a b c x y z u v w : Int) : Int := a * (y * w - v * z) - b * (x * w - u * z) + c * (x * v - u * y)
/-! ### the draws -/
/-- the feed: a cell, a seed, a count that is below n -/
def Fd (n : Nat) (d : D) : Prop := ∃ a b c : Int, d = .lst [.int a, .int b, .int c] ∧ Zb 31 b ∧ 0 ≤ c ∧ c < n
theorem Fd.mono {n m : Nat} {d : D} (h : Fd n d) (l : n ≤ m) : Fd m d := by
  obtain ⟨a, b, c, e, h1, h2, h3⟩ := h
  exact ⟨a, b, c, e, h1, h2, by omega⟩
theorem Zb.of_lt {n : Nat} {x : Int} (h0 : 0 ≤ x) (h : x < 2 ^ n) : Zb n x := by
  show x.natAbs < 2 ^ n
  have : (x.natAbs : Int) < ((2 ^ n : Nat) : Int) := by rw [Int.natAbs_of_nonneg h0]; simpa using h
  exact Int.ofNat_lt.mp this
theorem Zb.of_abs {n : Nat} {x : Int} (h0 : -(2 ^ n) < x) (h : x < 2 ^ n) : Zb n x := by
  show x.natAbs < 2 ^ n
  have e : (2 ^ n : Int) = ((2 ^ n : Nat) : Int) := by simp
  rw [e] at h0 h
  omega
theorem fmod_b {x m : Int} (h : 0 < m) : 0 ≤ x.fmod m ∧ x.fmod m < m := ⟨Int.fmod_nonneg_of_pos x h, Int.fmod_lt_of_pos x h⟩
theorem at_ge {α : Type} {xs : List α} {i : Int} (h0 : 0 ≤ i) (h : i < xs.length) : ∃ v, atI xs i = some v ∧ v ∈ xs ∧ xs[i.toNat]? = some v := by
  obtain ⟨j, rfl⟩ : ∃ j : Nat, i = j := ⟨i.toNat, by omega⟩
  have l : j < xs.length := by omega
  have e : xs[j]? = some xs[j] := by simp [l]
  exact ⟨xs[j], atI_nat e, List.getElem_mem l, by simpa using e⟩
theorem z3q {n : Nat} {x y w s : Int} (hx : Zb n x) (hy : Zb n y) (hw : Zb n w) (l : n ≤ 20000) : Z3 (x / s) (y / s) (w / s) := ⟨(Zb.quot hx).mono l, (Zb.quot hy).mono l, (Zb.quot hw).mono l⟩
theorem absz {r m : Int} (h1 : -m ≤ r) (h2 : r ≤ m) (h : m < 2 ^ 150) : ∃ c, 1 + (if r < 0 then -r else r) = c ∧ 0 < c ∧ Zb 200 c := by
  refine ⟨_, rfl, ?_, Zb.rg ?_⟩ <;> split <;> omega
def ftI (x y w u v : Int) : Int := (x - u * w) * (x - u * w) + (y - v * w) * (y - v * w)
/-- what an if leaves, said once for both ways -/
theorem sif_cut {b : Bool} {g1 g2 : DS} {E : DEnds} {δ : DEnv} (I : DEnv → Prop) (h : ∀ nx : DEnv → Prop, (∀ δ, I δ → nx δ) → sif b (g1 { E with nx := nx }) (g2 { E with nx := nx }) () () δ) (k : ∀ δ, I δ → E.nx δ) : sif b (g1 E) (g2 E) () () δ := h E.nx k
theorem ftz {x y w u v : Int} (h1 : Z3 x y w) (h2 : Z2 u v) : Zb 300000 (ftI x y w u v) := by
  obtain ⟨a, b, c⟩ := h1
  obtain ⟨d, e⟩ := h2
  unfold ftI
  walk_at "zm"
/-- a point of a draw: lowest terms, whatever they are -/
theorem pt_any {x y w : Int} {n : Nat} {Q : D → Prop} (hw : w ≠ 0) (h1 : Zb n x) (h2 : Zb n y) (h3 : Zb n w) (h : ∀ X Y W : Int, 0 < W → Zb n X → Zb n Y → Zb n W → Q (P3 X Y W)) : Q (ptD x y w) := h _ _ _ (by3_w hw) (Zb.quot h1) (Zb.quot h2) (Zb.quot h3)
theorem z3m {n : Nat} {x y w : Int} (h1 : Zb n x) (h2 : Zb n y) (h3 : Zb n w) (l : n ≤ 20000) : Z3 x y w := ⟨h1.mono l, h2.mono l, h3.mono l⟩
theorem z2m {n : Nat} {x y : Int} (h1 : Zb n x) (h2 : Zb n y) (l : n ≤ 20000) : Z2 x y := ⟨h1.mono l, h2.mono l⟩
/-- one of four lengths -/
theorem far4 {r f1 f2 f3 f4 : Int} (h1 : 0 ≤ r) (h2 : r < 4) (z : (0 ≤ f1 ∧ f1 < 2 ^ 150) ∧ (0 ≤ f2 ∧ f2 < 2 ^ 150) ∧ (0 ≤ f3 ∧ f3 < 2 ^ 150) ∧ (0 ≤ f4 ∧ f4 < 2 ^ 150)) : ∃ far : Int, atI [D.int f1, D.int f2, D.int f3, D.int f4] r = some (.int far) ∧ 0 ≤ far ∧ far < 2 ^ 150 ∧ Zb 200 far := by
  have : r = 0 ∨ r = 1 ∨ r = 2 ∨ r = 3 := by omega
  obtain ⟨z1, z2, z3, z4⟩ := z
  rcases this with h | h | h | h <;> subst h
  · exact ⟨_, rfl, z1.1, z1.2, Zb.rg (by omega)⟩
  · exact ⟨_, rfl, z2.1, z2.2, Zb.rg (by omega)⟩
  · exact ⟨_, rfl, z3.1, z3.2, Zb.rg (by omega)⟩
  · exact ⟨_, rfl, z4.1, z4.2, Zb.rg (by omega)⟩
theorem sign_dite' (n : Int) : ((if 0 < n then (1 : Int) else 0) - if n < 0 then 1 else 0) = n.sign := by
  rcases Int.lt_trichotomy n 0 with h | h | h
  · rw [Int.sign_eq_neg_one_of_neg h, if_pos h, if_neg (by omega)]; rfl
  · subst h; rfl
  · rw [Int.sign_eq_one_of_pos h, if_pos h, if_neg (by omega)]; rfl
theorem sign_dite (n : Int) : ((if decide (0 < n) = true then (1 : Int) else 0) - if decide (n < 0) = true then 1 else 0) = n.sign := by
  simp only [decide_eq_true_eq]
  rcases Int.lt_trichotomy n 0 with h | h | h
  · rw [Int.sign_eq_neg_one_of_neg h, if_pos h, if_neg (by omega)]; rfl
  · subst h; rfl
  · rw [Int.sign_eq_one_of_pos h, if_pos h, if_neg (by omega)]; rfl
theorem frD_eq {x w a b : Int} (h1 : x / by2 x w = a) (h2 : w / by2 x w = b) : frD x w = P2 a b := by unfold frD; rw [h1, h2]
theorem ptD_eq {x y w a b c : Int} (h1 : x / by3 x y w = a) (h2 : y / by3 x y w = b) (h3 : w / by3 x y w = c) : ptD x y w = P3 a b c := by unfold ptD; rw [h1, h2, h3]

/-! ### lines -/
abbrev lnD (a b c : Int) : D := P3 (a / (g3 a b c : Int)) (b / (g3 a b c : Int)) (c / (g3 a b c : Int))
theorem g3_ne {a b : Int} (c : Int) (h : a ≠ 0 ∨ b ≠ 0) : (g3 a b c : Int) ≠ 0 := by
  have : 0 < Int.gcd a b := by
    rcases h with h | h
    · exact Int.gcd_pos_of_ne_zero_left _ h
    · exact Int.gcd_pos_of_ne_zero_right _ h
  have h2 : 0 < g3 a b c := Int.gcd_pos_of_ne_zero_left _ (by omega)
  omega
theorem g3_da (a b c : Int) : (g3 a b c : Int) ∣ a := dvd_of_natAbs (Nat.dvd_trans (by rw [Int.natAbs_natCast]; exact Int.gcd_dvd_natAbs_left _ _) (by simpa using Int.gcd_dvd_natAbs_left a b))
theorem g3_db (a b c : Int) : (g3 a b c : Int) ∣ b := dvd_of_natAbs (Nat.dvd_trans (by rw [Int.natAbs_natCast]; exact Int.gcd_dvd_natAbs_left _ _) (by simpa using Int.gcd_dvd_natAbs_right a b))
theorem g3_dc (a b c : Int) : (g3 a b c : Int) ∣ c := dvd_of_natAbs (by rw [Int.natAbs_natCast]; exact Int.gcd_dvd_natAbs_right _ _)
theorem g3_z {n : Nat} {a b c : Int} (h : a ≠ 0 ∨ b ≠ 0) (h1 : Zb n a) (h2 : Zb n b) : Zb n (g3 a b c : Int) := by
  rcases h with h | h
  · exact Zb.le h1 (Nat.le_of_dvd (by omega) (Int.natAbs_dvd_natAbs.mpr (g3_da a b c)))
  · exact Zb.le h2 (Nat.le_of_dvd (by omega) (Int.natAbs_dvd_natAbs.mpr (g3_db a b c)))
theorem quot_ne {a s : Int} (d : s ∣ a) (h : a ≠ 0) : a / s ≠ 0 := fun e => by
  have := Int.ediv_mul_cancel d
  rw [e, Int.zero_mul] at this
  exact h this.symm
theorem ln_any {a b c : Int} {n : Nat} {Q : D → Prop} (h0 : a ≠ 0 ∨ b ≠ 0) (h1 : Zb n a) (h2 : Zb n b) (h3 : Zb n c) (h : ∀ A B C : Int, (A ≠ 0 ∨ B ≠ 0) → Zb n A → Zb n B → Zb n C → Q (P3 A B C)) : Q (lnD a b c) :=
  h _ _ _ (h0.imp (quot_ne (g3_da a b c)) (quot_ne (g3_db a b c))) (Zb.quot h1) (Zb.quot h2) (Zb.quot h3)
def mtD (a b c x y z : Int) : D := if a * y - x * b = 0 then .non else ptD (c * y - z * b) (a * z - x * c) (a * y - x * b)
theorem by3_neg {x y w : Int} (h : w ≠ 0) : by3 (-x) (-y) (-w) = - by3 x y w := by
  have e : g3 (-x) (-y) (-w) = g3 x y w := by simp [g3, Int.gcd]
  unfold by3
  rw [e]
  split <;> split <;> omega
theorem neg_quot {x s : Int} (d : s ∣ x) (hs : s ≠ 0) : -x / -s = x / s := by
  obtain ⟨k, rfl⟩ := d
  rw [Int.mul_ediv_cancel_left _ hs, show -(s * k) = -s * k by grind, Int.mul_ediv_cancel_left _ (by omega)]
theorem ptD_neg {x y w : Int} (h : w ≠ 0) : ptD (-x) (-y) (-w) = ptD x y w := by
  unfold ptD
  rw [by3_neg h, neg_quot (by3_dx x y w) (by3_ne h), neg_quot (by3_dy x y w) (by3_ne h), neg_quot (by3_dw x y w) (by3_ne h)]
theorem mtD_comm (a b c x y z : Int) : mtD x y z a b c = mtD a b c x y z := by
  unfold mtD
  by_cases h : a * y - x * b = 0
  · rw [if_pos h, if_pos (by grind)]
  · rw [if_neg h, if_neg (by grind), ← ptD_neg h]
    congr 1 <;> grind

/-! ### fractions -/
theorem dvd_cop {b a d : Int} (h : Int.gcd b a = 1) (k : b ∣ a * d) : b ∣ d := by
  apply dvd_of_natAbs
  have h' : Nat.Coprime b.natAbs a.natAbs := h
  exact h'.dvd_of_dvd_mul_left (by rw [← Int.natAbs_mul]; exact Int.natAbs_dvd_natAbs.mpr k)
theorem low_eq {a b c d : Int} (hb : 0 < b) (hd : 0 < d) (h1 : Int.gcd a b = 1) (h2 : Int.gcd c d = 1) (e : a * d = c * b) : a = c ∧ b = d := by
  have e1 : b ∣ d := by
    have : b ∣ a * d := ⟨c, by rw [e, Int.mul_comm]⟩
    exact dvd_cop (by rw [Int.gcd_comm]; exact h1) this
  have e2 : d ∣ b := by
    have : d ∣ c * b := ⟨a, by rw [← e, Int.mul_comm]⟩
    exact dvd_cop (by rw [Int.gcd_comm]; exact h2) this
  have e3 : b = d := Int.dvd_antisymm (by omega) (by omega) e1 e2
  subst e3
  exact ⟨Int.eq_of_mul_eq_mul_right (by omega) e, rfl⟩
theorem frD_congr {a b c d : Int} (hb : b ≠ 0) (hd : d ≠ 0) (e : a * d = c * b) : frD a b = frD c d := by
  have f1 := by2_w (x := a) hb
  have f2 := by2_w (x := c) hd
  have g1 := by2_gcd (x := a) hb
  have g2 := by2_gcd (x := c) hd
  have k1 := by2_eqx (x := a) (w := b)
  have k2 := by2_eqx (x := c) (w := d)
  unfold frD
  generalize a / by2 a b = A at *
  generalize b / by2 a b = B at *
  generalize c / by2 c d = C at *
  generalize d / by2 c d = F at *
  have : A * F = C * B := by
    have hbd : b * d ≠ 0 := Int.mul_ne_zero hb hd
    apply Int.eq_of_mul_eq_mul_right hbd
    have e1 : A * F * (b * d) = (A * b) * (F * d) := by grind
    have e2 : C * B * (b * d) = (C * d) * (B * b) := by grind
    rw [e1, e2, k1, k2]
    grind
  obtain ⟨r1, r2⟩ := low_eq f1 f2 g1 g2 this
  rw [r1, r2]
/-- a fraction in lowest terms stands for itself -/
theorem frD_low {a b : Int} (hb : 0 < b) (h : Int.gcd a b = 1) : frD a b = P2 a b := by
  unfold frD
  have : by2 a b = 1 := by unfold by2; rw [h, if_neg (by omega)]; rfl
  rw [this, Int.ediv_one, Int.ediv_one]
theorem frD_any {x w : Int} {n m : Nat} {Q : D → Prop} (hw : w ≠ 0) (h1 : Zb n x) (h2 : Zb m w) (h : ∀ A B : Int, 0 < B → Int.gcd A B = 1 → A * w = x * B → Zb n A → Zb m B → Q (P2 A B)) : Q (frD x w) :=
  h _ _ (by2_w hw) (by2_gcd hw) by2_eqx (Zb.quot h1) (Zb.quot h2)
/-- one more fraction -/
def fadd (f g : Int × Int) : Int × Int := (f.1 * g.2 + g.1 * f.2, f.2 * g.2)
def fsum (fs : List (Int × Int)) : Int × Int := fs.foldl fadd (0, 1)
abbrev frP (f : Int × Int) : D := frD f.1 f.2
theorem fold_ne : ∀ (fs : List (Int × Int)) (f : Int × Int), f.2 ≠ 0 → (∀ g ∈ fs, g.2 ≠ 0) → (fs.foldl fadd f).2 ≠ 0
  | [], f, h, _ => h
  | g :: fs, f, h, hs => fold_ne fs _ (Int.mul_ne_zero h (hs g (by simp))) fun g' hg => hs g' (by simp [hg])
theorem fsum_ne {fs : List (Int × Int)} (h : ∀ g ∈ fs, g.2 ≠ 0) : (fsum fs).2 ≠ 0 := fold_ne fs (0, 1) (by decide) h
theorem fsum_snoc (fs : List (Int × Int)) (g : Int × Int) : fsum (fs ++ [g]) = fadd (fsum fs) g := by unfold fsum; rw [List.foldl_append]; rfl
theorem fadd_fr {f g : Int × Int} {A B C F : Int} (hf : f.2 ≠ 0) (hg : g.2 ≠ 0) (hB : 0 < B) (hF : 0 < F) (e1 : A * f.2 = f.1 * B) (e2 : C * g.2 = g.1 * F) : frD (A * F + C * B) (B * F) = frP (fadd f g) := by
  apply frD_congr (Int.mul_ne_zero (by omega) (by omega)) (Int.mul_ne_zero hf hg)
  show (A * F + C * B) * (f.2 * g.2) = (f.1 * g.2 + g.1 * f.2) * (B * F)
  have e3 : (A * F + C * B) * (f.2 * g.2) = (A * f.2) * (F * g.2) + (C * g.2) * (B * f.2) := by grind
  rw [e3, e1, e2]
  grind
theorem fold_z {m k : Nat} : ∀ (fs : List (Int × Int)) (f : Int × Int) (p q : Nat), (∀ f ∈ fs, f.2 ≠ 0 ∧ Zb k f.1 ∧ Zb m f.2) → Zb p f.2 → Zb q f.1 → p + fs.length * m ≤ 9000 → m ≤ 2000 → k ≤ 20000 → Zb (p + fs.length * m) (fs.foldl fadd f).2 ∧ Zb (q + fs.length * 32000) (fs.foldl fadd f).1
  | [], f, p, q, _, h, h2, _, _, _ => ⟨by simpa using h, by simpa using h2⟩
  | g :: fs, f, p, q, hs, h, h2, hl, hm, hk => by
    have hg := hs g (by simp)
    rw [List.length_cons, Nat.add_mul] at hl
    have := fold_z fs (fadd f g) (p + m) (q + m + (k + p) + 1) (fun g' hg' => hs g' (by simp [hg'])) (Zb.mul h hg.2.2) (Zb.add (Zb.mul h2 hg.2.2) (Zb.mul hg.2.1 h)) (by omega) hm hk
    rw [List.length_cons, List.foldl_cons]
    exact ⟨this.1.mono (by rw [Nat.add_mul]; omega), this.2.mono (by omega)⟩
theorem fsum_z {m k : Nat} {fs : List (Int × Int)} (h : ∀ f ∈ fs, f.2 ≠ 0 ∧ Zb k f.1 ∧ Zb m f.2) (hl : fs.length * m ≤ 8000) (hm : m ≤ 2000) (hk : k ≤ 20000) : Zb (1 + fs.length * m) (fsum fs).2 ∧ Zb (1 + fs.length * 32000) (fsum fs).1 :=
  fold_z fs (0, 1) 1 1 h (by decide) (by decide) (by omega) hm hk
/-! ### areas -/
abbrev C3 := Int × Int × Int
abbrev p3 (c : C3) : D := P3 c.1 c.2.1 c.2.2
def tri (c p q : C3) : Int × Int := (twI c.1 c.2.1 c.2.2 p.1 p.2.1 p.2.2 q.1 q.2.1 q.2.2, 2 * c.2.2 * p.2.2 * q.2.2)
def fan (c : C3) : List C3 → List (Int × Int)
  | p :: q :: r => tri c p q :: fan c (q :: r)
  | [_] => []
  | [] => []
theorem fan_len (c : C3) : ∀ r : List C3, (fan c r).length = r.length - 1
  | [] => rfl
  | [_] => rfl
  | p :: q :: r => by
    show (fan c (q :: r)).length + 1 = _
    rw [fan_len c (q :: r)]
    simp
theorem fan_get (c : C3) : ∀ (r : List C3) (j : Nat) (p q : C3), r[j]? = some p → r[j + 1]? = some q → (fan c r)[j]? = some (tri c p q)
  | [], j, p, q, h, _ => by simp at h
  | [x], j, p, q, _, h => by simp at h
  | x :: y :: r, 0, p, q, h1, h2 => by
    simp only [List.getElem?_cons_zero, List.getElem?_cons_succ, Option.some.injEq] at h1 h2
    subst h1 h2
    rfl
  | x :: y :: r, j + 1, p, q, h1, h2 => fan_get c (y :: r) j p q h1 h2
theorem fan_mem {c : C3} : ∀ (r : List C3) (f : Int × Int), f ∈ fan c r → ∃ p ∈ r, ∃ q ∈ r, f = tri c p q
  | [], f, h => by simp [fan] at h
  | [x], f, h => by simp [fan] at h
  | x :: y :: r, f, h => by
    unfold fan at h
    rcases List.mem_cons.mp h with e | e
    · exact ⟨x, by simp, y, by simp, e⟩
    · obtain ⟨p, hp, q, hq, e⟩ := fan_mem (y :: r) f e
      exact ⟨p, List.mem_cons_of_mem _ hp, q, List.mem_cons_of_mem _ hq, e⟩
theorem tw_z {n : Nat} {a b c x y z u v w : Int} (h1 : Zb n a) (h2 : Zb n b) (h3 : Zb n c) (h4 : Zb n x) (h5 : Zb n y) (h6 : Zb n z) (h7 : Zb n u) (h8 : Zb n v) (h9 : Zb n w) : Zb (15 * n + 6) (twI a b c x y z u v w) := by
  unfold twI
  refine Zb.mono (n := _) (by walk_at "zb") ?_
  omega
theorem at_nat {α : Type} {xs : List α} {z : Int} {j : Nat} {v : α} (e : z = (j : Int)) (h : xs[j]? = some v) : atI xs z = some v := by rw [e]; exact atI_nat h
theorem rng_get {lo : Int} {n i : Nat} {d : D} (h : (rngD lo n)[i]? = some d) : i < n ∧ d = .int (lo + i) := by
  unfold rngD at h
  rw [List.getElem?_map, Option.map_eq_some_iff] at h
  obtain ⟨j, hj, rfl⟩ := h
  have := List.getElem?_eq_some_iff.mp hj
  obtain ⟨l, e⟩ := this
  rw [List.getElem_range] at e
  rw [List.length_range] at l
  exact ⟨l, by rw [e]⟩
theorem rng_len {lo : Int} {n : Nat} : (rngD lo n).length = n := by unfold rngD; rw [List.length_map, List.length_range]
theorem get_lt {α : Type} {xs : List α} {i : Nat} (h : i < xs.length) : ∃ x, xs[i]? = some x ∧ x ∈ xs := ⟨xs[i], by simp [h], List.getElem_mem h⟩
theorem get_map {α β : Type} {f : α → β} {xs : List α} {i : Nat} {x : α} (h : xs[i]? = some x) : (xs.map f)[i]? = some (f x) := by rw [List.getElem?_map, h]; rfl

/-! ### comprehensions, slices -/
inductive All2 (P : D → D → Prop) : List D → List D → Prop
  | nil : All2 P [] []
  | cons {x y : D} {xs ys : List D} : P x y → All2 P xs ys → All2 P (x :: xs) (y :: ys)
/-- each item by its own word -/
theorem compS_rel {tg : DG} {fe : DE} {vs : List Nat} {Q : List D → DEnv → Prop} {u : Tag Q} (δ0 : DEnv) (P : D → D → Prop) : ∀ (ds acc : List D), acc.length + ds.length ≤ sizeLine →
    (∀ d ∈ ds, ∀ K : D → DEnv → Prop, (∀ y δ', P d y → wipeD δ' vs = δ0 → K y δ') → tg d δ0 fun δ1 => fe δ1 K xF) → (∀ ys, All2 P ds ys → Q (acc ++ ys) δ0) → compS tg dYes fe vs Q u ds acc δ0
  | [], acc, _, _, hq => by
    have := hq [] .nil
    rw [List.append_nil] at this
    exact this
  | d :: ds, acc, hl, hs, hq => by
    refine hs d (by simp) (fun y δ3 => acc.length < sizeLine ∧ compD tg dYes fe vs ds (acc ++ [y]) (wipeD δ3 vs) Q) fun y δ' hp hw => ?_
    rw [hw]
    simp only [List.length_cons] at hl
    refine ⟨by omega, ?_⟩
    refine compS_rel (u := ()) δ0 P ds (acc ++ [y]) (by simp only [List.length_append, List.length_cons, List.length_nil]; omega) (fun d' hd' => hs d' (by simp [hd'])) fun ys hy => ?_
    rw [List.append_assoc]
    exact hq (y :: ys) (.cons hp hy)
theorem compS_map {tg : DG} {fe : DE} {vs : List Nat} {Q : List D → DEnv → Prop} {u : Tag Q} (δ0 : DEnv) (f : D → D) (ds : List D) (hl : ds.length ≤ sizeLine)
    (hs : ∀ d ∈ ds, ∀ K : D → DEnv → Prop, (∀ δ', wipeD δ' vs = δ0 → K (f d) δ') → tg d δ0 fun δ1 => fe δ1 K xF) (hq : Q (ds.map f) δ0) : compS tg dYes fe vs Q u ds [] δ0 := by
  refine compS_rel δ0 (fun d y => y = f d) ds [] (by simpa using hl) (fun d hd K hK => hs d hd K fun δ' hw => hK _ _ rfl hw) fun ys hy => ?_
  have : ys = ds.map f := by
    clear hs hq hl
    induction hy with
    | nil => rfl
    | cons h _ ih => rw [h, ih]; rfl
  rw [List.nil_append, this]
  exact hq
theorem compS_xsA {α : Type} {tg : DG} {fe : DE} {vs : List Nat} {Q : List D → DEnv → Prop} {u : Tag Q} (δ0 : DEnv) (f g : α → D) : ∀ (xs : List α) (acc : List D), acc.length + xs.length ≤ sizeLine →
    (∀ x ∈ xs, ∀ K : D → DEnv → Prop, (∀ δ', wipeD δ' vs = δ0 → K (g x) δ') → tg (f x) δ0 fun δ1 => fe δ1 K xF) → Q (acc ++ xs.map g) δ0 → compS tg dYes fe vs Q u (xs.map f) acc δ0
  | [], acc, _, _, hq => by
    rw [List.map_nil, List.append_nil] at hq
    exact hq
  | x :: xs, acc, hl, hs, hq => by
    refine hs x (by simp) (fun y δ3 => acc.length < sizeLine ∧ compD tg dYes fe vs (xs.map f) (acc ++ [y]) (wipeD δ3 vs) Q) fun δ' hw => ?_
    rw [hw]
    simp only [List.length_cons] at hl
    refine ⟨by omega, ?_⟩
    refine compS_xsA (u := ()) δ0 f g xs (acc ++ [g x]) (by simp only [List.length_append, List.length_cons, List.length_nil]; omega) (fun d' hd' => hs d' (by simp [hd'])) ?_
    rw [List.append_assoc]
    exact hq
theorem compS_xs {α : Type} {tg : DG} {fe : DE} {vs : List Nat} {Q : List D → DEnv → Prop} {u : Tag Q} (δ0 : DEnv) (f g : α → D) (xs : List α) (hl : xs.length ≤ sizeLine)
    (hs : ∀ x ∈ xs, ∀ K : D → DEnv → Prop, (∀ δ', wipeD δ' vs = δ0 → K (g x) δ') → tg (f x) δ0 fun δ1 => fe δ1 K xF) (hq : Q (xs.map g) δ0) : compS tg dYes fe vs Q u (xs.map f) [] δ0 :=
  compS_xsA δ0 f g xs [] (by simpa using hl) hs hq
theorem cut_from {xs : List D} {i : Nat} (h : i ≤ xs.length) : DL.cutD xs (some (i : Int)) none = xs.drop i := by
  unfold DL.cutD
  rw [HT.sIx_nat, HT.sIx_none, Nat.min_eq_left h]
  exact List.take_of_length_le (by rw [List.length_drop]; omega)
theorem cut_to {xs : List D} {i : Nat} (h : i ≤ xs.length) : DL.cutD xs none (some (i : Int)) = xs.take i := by
  unfold DL.cutD
  rw [HT.sIx_nat, HT.sIx_none, Nat.min_eq_left h]
  simp
/-! ### rows of corners -/
abbrev p2 (c : Int × Int) : D := P2 c.1 c.2
def crs (p q : Int × Int) : Int := p.1 * q.2 - q.1 * p.2
def pth : List (Int × Int) → Int
  | p :: q :: r => crs p q + pth (q :: r)
  | [_] => 0
  | [] => 0
theorem pth_app (x : Int × Int) (r : List (Int × Int)) : ∀ l : List (Int × Int), pth (l ++ x :: r) = pth (l ++ [x]) + pth (x :: r)
  | [] => by simp [pth]
  | [p] => by simp [pth]
  | p :: q :: l => by
    have := pth_app x r (q :: l)
    simp only [List.cons_append, pth] at this ⊢
    rw [this, Int.add_assoc]
/-- once round -/
def cyc : List (Int × Int) → Int
  | [] => 0
  | p :: l => pth (p :: l ++ [p])
theorem cyc_rot : ∀ a b : List (Int × Int), cyc (a ++ b) = cyc (b ++ a)
  | [], b => by simp
  | a, [] => by simp
  | p :: a, q :: b => by
    show pth (p :: (a ++ q :: b) ++ [p]) = pth (q :: (b ++ p :: a) ++ [q])
    have e1 := pth_app q (b ++ [p]) (p :: a)
    have e2 := pth_app p (a ++ [q]) (q :: b)
    simp only [List.cons_append, List.append_assoc] at e1 e2 ⊢
    rw [e1, e2, Int.add_comm]
def fanS (c : Int × Int) : List (Int × Int) → Int
  | p :: q :: r => crs c p + crs p q + crs q c + fanS c (q :: r)
  | [_] => 0
  | [] => 0
theorem fanS_cyc (c : Int × Int) : ∀ (p : Int × Int) (r : List (Int × Int)), fanS c (p :: r) = pth (c :: (p :: r) ++ [c])
  | p, [] => by simp [fanS, pth, crs]; omega
  | p, q :: r => by
    have ih := fanS_cyc c q r
    simp only [fanS, List.cons_append, pth] at ih ⊢
    rw [ih]
    have : crs q c = - crs c q := by unfold crs; omega
    omega

/-! ### areas of corners over one bottom -/
def nrm (w : Int) (p : Int × Int) : C3 := (p.1 / by3 p.1 p.2 w, p.2 / by3 p.1 p.2 w, w / by3 p.1 p.2 w)
theorem tw_scale (k l n a b c x y z u v w : Int) : twI (a * k) (b * k) (c * k) (x * l) (y * l) (z * l) (u * n) (v * n) (w * n) = k * l * n * twI a b c x y z u v w := by unfold twI; grind
theorem tw_flat (w : Int) (p q r : Int × Int) : twI p.1 p.2 w q.1 q.2 w r.1 r.2 w = w * (crs p q + crs q r + crs r p) := by unfold twI crs; grind
theorem nrm_pos {w : Int} (hw : w ≠ 0) (p : Int × Int) : 0 < (nrm w p).2.2 := by3_w hw
theorem tri_nrm {w : Int} (hw : w ≠ 0) (c p q : Int × Int) : (tri (nrm w c) (nrm w p) (nrm w q)).1 * (2 * w * w) = (crs c p + crs p q + crs q c) * (tri (nrm w c) (nrm w p) (nrm w q)).2 := by
  have a1 : (nrm w c).1 * w = c.1 * (nrm w c).2.2 := by3_eqx
  have a2 : (nrm w c).2.1 * w = c.2 * (nrm w c).2.2 := by3_eqy
  have b1 : (nrm w p).1 * w = p.1 * (nrm w p).2.2 := by3_eqx
  have b2 : (nrm w p).2.1 * w = p.2 * (nrm w p).2.2 := by3_eqy
  have d1 : (nrm w q).1 * w = q.1 * (nrm w q).2.2 := by3_eqx
  have d2 : (nrm w q).2.1 * w = q.2 * (nrm w q).2.2 := by3_eqy
  unfold tri
  generalize nrm w c = C at *
  generalize nrm w p = P at *
  generalize nrm w q = Z at *
  have s1 := tw_scale w w w C.1 C.2.1 C.2.2 P.1 P.2.1 P.2.2 Z.1 Z.2.1 Z.2.2
  have s2 := tw_scale C.2.2 P.2.2 Z.2.2 c.1 c.2 w p.1 p.2 w q.1 q.2 w
  rw [a1, a2, b1, b2, d1, d2, Int.mul_comm C.2.2 w, Int.mul_comm P.2.2 w, Int.mul_comm Z.2.2 w, s2, tw_flat] at s1
  apply Int.eq_of_mul_eq_mul_right hw
  show twI C.1 C.2.1 C.2.2 P.1 P.2.1 P.2.2 Z.1 Z.2.1 Z.2.2 * (2 * w * w) * w = (crs c p + crs p q + crs q c) * (2 * C.2.2 * P.2.2 * Z.2.2) * w
  generalize twI C.1 C.2.1 C.2.2 P.1 P.2.1 P.2.2 Z.1 Z.2.1 Z.2.2 = T at *
  generalize crs c p + crs p q + crs q c = S at *
  grind
theorem tri_ne {w : Int} (hw : w ≠ 0) (c p q : Int × Int) : (tri (nrm w c) (nrm w p) (nrm w q)).2 ≠ 0 := by
  have h1 := nrm_pos hw c
  have h2 := nrm_pos hw p
  have h3 := nrm_pos hw q
  exact Int.mul_ne_zero (Int.mul_ne_zero (Int.mul_ne_zero (by decide) (by omega)) (by omega)) (by omega)
theorem fan_sum {w : Int} (hw : w ≠ 0) (c : Int × Int) : ∀ (r : List (Int × Int)) (f : Int × Int) (s : Int), f.2 ≠ 0 → f.1 * (2 * w * w) = s * f.2 →
    ((fan (nrm w c) (r.map (nrm w))).foldl fadd f).2 ≠ 0 ∧ ((fan (nrm w c) (r.map (nrm w))).foldl fadd f).1 * (2 * w * w) = (s + fanS c r) * ((fan (nrm w c) (r.map (nrm w))).foldl fadd f).2
  | [], f, s, h1, h2 => ⟨h1, by simpa [fan, fanS] using h2⟩
  | [p], f, s, h1, h2 => ⟨h1, by simpa [fan, fanS] using h2⟩
  | p :: q :: r, f, s, h1, h2 => by
    have t1 := tri_nrm hw c p q
    have t2 := tri_ne hw c p q
    have := fan_sum hw c (q :: r) (fadd f (tri (nrm w c) (nrm w p) (nrm w q))) (s + (crs c p + crs p q + crs q c)) (Int.mul_ne_zero h1 t2) (by
      unfold fadd
      generalize tri (nrm w c) (nrm w p) (nrm w q) = g at *
      generalize crs c p + crs p q + crs q c = S at *
      generalize 2 * w * w = m at *
      show (f.1 * g.2 + g.1 * f.2) * m = (s + S) * (f.2 * g.2)
      have e : (f.1 * g.2 + g.1 * f.2) * m = (f.1 * m) * g.2 + (g.1 * m) * f.2 := by grind
      rw [e, h2, t1]
      grind)
    have e : s + fanS c (p :: q :: r) = s + (crs c p + crs p q + crs q c) + fanS c (q :: r) := by rw [fanS]; omega
    rw [e]
    exact this
theorem area_cyc {w : Int} (hw : w ≠ 0) (c p : Int × Int) (r : List (Int × Int)) : frP (fsum (fan (nrm w c) ((p :: r).map (nrm w)))) = frD (cyc (c :: p :: r)) (2 * w * w) := by
  have := fan_sum hw c (p :: r) (0, 1) 0 (by decide) (by simp)
  have hm : 2 * w * w ≠ 0 := Int.mul_ne_zero (Int.mul_ne_zero (by decide) hw) hw
  apply frD_congr this.1 hm
  have e := this.2
  rw [Int.zero_add, fanS_cyc] at e
  exact e
/-- moved and made greater -/
theorem pth_aff (t : Int) (v : Int × Int) (q : Int × Int) : ∀ (l : List (Int × Int)) (p : Int × Int), pth ((p :: l ++ [q]).map fun z => (t * (z.1 + v.1), t * (z.2 + v.2))) = t * t * (pth (p :: l ++ [q]) + crs v q - crs v p)
  | [], p => by simp only [List.cons_append, List.nil_append, List.map_cons, List.map_nil, pth, crs]; grind
  | z :: l, p => by
    have ih := pth_aff t v q l z
    simp only [List.cons_append, List.map_cons, pth] at ih ⊢
    rw [ih]
    simp only [crs]
    grind
theorem cyc_aff (t : Int) (v : Int × Int) : ∀ l : List (Int × Int), cyc (l.map fun z => (t * (z.1 + v.1), t * (z.2 + v.2))) = t * t * cyc l
  | [] => by simp [cyc]
  | p :: l => by
    have := pth_aff t v p l p
    rw [Int.add_sub_cancel] at this
    rw [List.map_append] at this
    exact this
theorem cyc_end (i : List (Int × Int)) (x : Int × Int) : cyc (i ++ [x]) = pth (x :: (i ++ [x])) := by rw [cyc_rot]; rfl
theorem pth_take {l : List (Int × Int)} {i : Nat} {x y : Int × Int} (h1 : l[i]? = some x) (h2 : l[i + 1]? = some y) : pth (l.take (i + 2)) = pth (l.take (i + 1)) + crs x y := by
  have e1 : l.take (i + 1) = l.take i ++ [x] := by rw [List.take_add_one, h1]; rfl
  have e2 : l.take (i + 2) = l.take i ++ x :: [y] := by rw [List.take_add_one, h2, e1, List.append_assoc]; rfl
  rw [e2, pth_app, e1]
  simp [pth]
theorem nrm_z {n : Nat} {w : Int} {p : Int × Int} (h1 : Zb n p.1) (h2 : Zb n p.2) (h3 : Zb n w) : Zb n (nrm w p).1 ∧ Zb n (nrm w p).2.1 ∧ Zb n (nrm w p).2.2 := ⟨Zb.quot h1, Zb.quot h2, Zb.quot h3⟩
/-! ### what == takes -/
def Cl (k : Nat) (d : D) : Prop := (toP d).canLay0 = true ∧ (toP d).depth ≤ k
theorem Cl.int (i : Int) : Cl 0 (.int i) := ⟨by simp [toP, PyData.canLay0], by simp [toP, PyData.depth]⟩
theorem Cl.non : Cl 0 .non := ⟨by simp [toP, PyData.canLay0], by simp [toP, PyData.depth]⟩
theorem Cl.bl (i : Bool) : Cl 0 (.bl i) := ⟨by simp [toP, PyData.canLay0], by simp [toP, PyData.depth]⟩
theorem Cl.mono {k l : Nat} {d : D} (h : Cl k d) (e : k ≤ l) : Cl l d := ⟨h.1, Nat.le_trans h.2 e⟩
theorem Cl.alls {k : Nat} : ∀ (ds : List D), (∀ d ∈ ds, Cl k d) → PyData.canLayAll0 (toPs ds) = true ∧ PyData.depthAll (toPs ds) ≤ k
  | [], _ => ⟨by simp [toPs, PyData.canLayAll0], by simp [toPs, PyData.depthAll]⟩
  | d :: ds, h => by
    have h1 := h d (by simp)
    have h2 := Cl.alls ds fun d' hd => h d' (by simp [hd])
    refine ⟨?_, ?_⟩
    · simp only [toPs, PyData.canLayAll0, Bool.and_eq_true]; exact ⟨h1.1, h2.1⟩
    · simp only [toPs, PyData.depthAll]; exact Nat.max_le.mpr ⟨h1.2, h2.2⟩
theorem Cl.lst {k : Nat} {ds : List D} (h : ∀ d ∈ ds, Cl k d) : Cl (k + 1) (.lst ds) := by
  have := Cl.alls ds h
  exact ⟨by simp only [toP, PyData.canLay0]; exact this.1, by simp only [toP, PyData.depth]; omega⟩
theorem Cl.tup {k : Nat} {ds : List D} (h : ∀ d ∈ ds, Cl k d) : Cl (k + 1) (.tup ds) := by
  have := Cl.alls ds h
  exact ⟨by simp only [toP, PyData.canLay0]; exact this.1, by simp only [toP, PyData.depth]; omega⟩
theorem Cl.shp {k : Nat} {d : D} (h : Cl k d) (e : k ≤ 64) : shp d = true := by
  unfold DL.shp SeqAt.shaped
  rw [h.1, Bool.true_and]
  exact decide_eq_true (Nat.le_trans h.2 e)
theorem Cl.p3 (c : C3) : Cl 1 (p3 c) := Cl.tup fun d hd => by
  simp only [List.mem_cons, List.not_mem_nil, or_false] at hd
  rcases hd with rfl | rfl | rfl <;> exact Cl.int _
theorem Cl.p2 (c : Int × Int) : Cl 1 (p2 c) := Cl.tup fun d hd => by
  simp only [List.mem_cons, List.not_mem_nil, or_false] at hd
  rcases hd with rfl | rfl <;> exact Cl.int _
theorem Cl.fld (cs : List C3) (es : List Int) : Cl 3 (.tup [.lst (cs.map G.p3), .lst (es.map .int)]) := Cl.tup fun d hd => by
  simp only [List.mem_cons, List.not_mem_nil, or_false] at hd
  rcases hd with rfl | rfl
  · refine Cl.lst fun d hd => ?_
    obtain ⟨c, _, rfl⟩ := List.mem_map.mp hd
    exact Cl.p3 c
  · refine (Cl.lst (k := 0) fun d hd => ?_).mono (by decide)
    obtain ⟨c, _, rfl⟩ := List.mem_map.mp hd
    exact Cl.int c
theorem eqds_self {ds : List D} (h : shp (.lst ds) = true) : eqds ds ds = true := by
  have := eqd_self h
  rwa [eqd_lst] at this
theorem Cl.lstOf {α : Type} {k : Nat} {f : α → D} {xs : List α} (h : ∀ x, Cl k (f x)) : Cl (k + 1) (.lst (xs.map f)) := Cl.lst fun d hd => by
  obtain ⟨c, _, rfl⟩ := List.mem_map.mp hd
  exact h c
theorem Cl.pair {k : Nat} {d e : D} (h1 : Cl k d) (h2 : Cl k e) : Cl (k + 1) (.tup [d, e]) := Cl.tup fun x hx => by
  simp only [List.mem_cons, List.not_mem_nil, or_false] at hx
  rcases hx with rfl | rfl
  · exact h1
  · exact h2
theorem pth_z {n : Nat} : ∀ l : List (Int × Int), (∀ p ∈ l, Zb n p.1 ∧ Zb n p.2) → Zb (l.length * (4 * n + 2) + 1) (pth l)
  | [], _ => (by decide : Zb 1 0).mono (by omega)
  | [_], _ => (by decide : Zb 1 0).mono (by omega)
  | p :: q :: r, h => by
    have ih := pth_z (q :: r) fun x hx => h x (by simp [hx])
    have h1 := h p (by simp)
    have h2 := h q (by simp)
    have hc : Zb (n + n + (n + n) + 1) (crs p q) := Zb.sub (Zb.mul h1.1 h2.2) (Zb.mul h2.1 h1.2)
    exact (Zb.add hc ih).mono (by simp only [List.length_cons, Nat.add_mul]; omega)
theorem cyc_z {n : Nat} : ∀ l : List (Int × Int), (∀ p ∈ l, Zb n p.1 ∧ Zb n p.2) → Zb ((l.length + 1) * (4 * n + 2) + 1) (cyc l)
  | [], _ => (by decide : Zb 1 0).mono (by omega)
  | p :: l, h => by
    have := pth_z (p :: l ++ [p]) fun x hx => h x (by simp at hx ⊢; rcases hx with e | e | e <;> simp [e])
    rw [List.length_append] at this
    exact this

/-! ### lines between spots -/
def htI (a b c x y w : Int) : Int := a * x + b * y - c * w
theorem g3_pos2 {a b : Int} (c : Int) (h : a ≠ 0 ∨ b ≠ 0) : (0 : Int) < (g3 a b c : Int) := by
  have := g3_ne c h
  omega
theorem ln_sign {a b : Int} (c x y w : Int) (h : a ≠ 0 ∨ b ≠ 0) : (htI (a / (g3 a b c : Int)) (b / (g3 a b c : Int)) (c / (g3 a b c : Int)) x y w).sign = (htI a b c x y w).sign := by
  have hp := g3_pos2 c h
  have e : htI a b c x y w = (g3 a b c : Int) * htI (a / (g3 a b c : Int)) (b / (g3 a b c : Int)) (c / (g3 a b c : Int)) x y w := by
    have e1 := Int.mul_ediv_cancel' (g3_da a b c)
    have e2 := Int.mul_ediv_cancel' (g3_db a b c)
    have e3 := Int.mul_ediv_cancel' (g3_dc a b c)
    generalize (g3 a b c : Int) = g at *
    generalize a / g = A at *
    generalize b / g = B at *
    generalize c / g = C at *
    subst e1 e2 e3
    unfold htI
    grind
  rw [e, Int.sign_mul, Int.sign_eq_one_of_pos hp, Int.one_mul]
theorem ln_gcd {a b : Int} (c : Int) (h : a ≠ 0 ∨ b ≠ 0) : g3 (a / (g3 a b c : Int)) (b / (g3 a b c : Int)) (c / (g3 a b c : Int)) = 1 := by
  have hp : 0 < g3 a b c := by have := g3_pos2 c h; omega
  have e1 : Int.gcd (a / (g3 a b c : Int)) (b / (g3 a b c : Int)) = Int.gcd a b / g3 a b c := by rw [Int.gcd_ediv (g3_da a b c) (g3_db a b c), Int.natAbs_natCast]
  have e2 : (c / (g3 a b c : Int)).natAbs = c.natAbs / g3 a b c := by rw [Int.natAbs_ediv_of_dvd (g3_dc a b c), Int.natAbs_natCast]
  show Nat.gcd (Int.natAbs (Int.gcd (a / (g3 a b c : Int)) (b / (g3 a b c : Int)) : Int)) (c / (g3 a b c : Int)).natAbs = 1
  rw [Int.natAbs_natCast, e1, e2, Nat.gcd_div (show g3 a b c ∣ Int.gcd a b from Int.gcd_dvd_natAbs_left (Int.gcd a b : Int) c) (Int.gcd_dvd_natAbs_right _ _)]
  exact Nat.div_self hp
theorem g3_neg (a b c : Int) : g3 (-a) (-b) (-c) = g3 a b c := by simp [g3, Int.gcd]
theorem neg_q {a s : Int} (d : s ∣ a) : -a / s = -(a / s) := Int.neg_ediv_of_dvd d
theorem lnD_neg (a b c : Int) : lnD (-a) (-b) (-c) = P3 (-(a / (g3 a b c : Int))) (-(b / (g3 a b c : Int))) (-(c / (g3 a b c : Int))) := by
  unfold lnD
  rw [g3_neg, neg_q (g3_da a b c), neg_q (g3_db a b c), neg_q (g3_dc a b c)]
/-- the three numbers of the line between -/
def axA (a c : Int) : Int := 2 * (c - a)
def axC (a b w c d v : Int) : Int := c * c + d * d - a * a - b * b - v + w
abbrev axD (a b w c d v : Int) : D := lnD (axA a c) (axA b d) (axC a b w c d v)
theorem ax_ne {a b c d : Int} (h : ¬ (a = c ∧ b = d)) : axA a c ≠ 0 ∨ axA b d ≠ 0 := by unfold axA; omega
theorem ax_ft (a b w c d v x y z : Int) : z * htI (axA a c) (axA b d) (axC a b w c d v) x y z = (ftI x y z a b - w * z * z) - (ftI x y z c d - v * z * z) := by
  unfold htI axA axC ftI
  grind
theorem sign_pos_mul {z n : Int} (h : 0 < z) : (z * n).sign = n.sign := by rw [Int.sign_mul, Int.sign_eq_one_of_pos h, Int.one_mul]
/-- where a point stands by the line between two spots -/
theorem ax_sign {a b c d x y z : Int} (h : ¬ (a = c ∧ b = d)) (hz : 0 < z) :
    (htI (axA a c / (g3 (axA a c) (axA b d) (axC a b 0 c d 0) : Int)) (axA b d / (g3 (axA a c) (axA b d) (axC a b 0 c d 0) : Int)) (axC a b 0 c d 0 / (g3 (axA a c) (axA b d) (axC a b 0 c d 0) : Int)) x y z).sign = (ftI x y z a b - ftI x y z c d).sign := by
  rw [ln_sign _ _ _ _ (ax_ne h), ← sign_pos_mul hz, ax_ft]
  congr 1
  omega
theorem ax_swap (a b c d : Int) : axD c d 0 a b 0 = P3 (-(axA a c / (g3 (axA a c) (axA b d) (axC a b 0 c d 0) : Int))) (-(axA b d / (g3 (axA a c) (axA b d) (axC a b 0 c d 0) : Int))) (-(axC a b 0 c d 0 / (g3 (axA a c) (axA b d) (axC a b 0 c d 0) : Int))) := by
  rw [← lnD_neg]
  have e1 : axA c a = -axA a c := by unfold axA; omega
  have e2 : axA d b = -axA b d := by unfold axA; omega
  have e3 : axC c d 0 a b 0 = -axC a b 0 c d 0 := by unfold axC; omega
  unfold axD
  rw [e1, e2, e3]
theorem sq_nn (x : Int) : 0 ≤ x * x := by
  rcases Int.le_total 0 x with h | h
  · exact Int.mul_nonneg h h
  · have := Int.mul_nonneg (show 0 ≤ -x by omega) (show 0 ≤ -x by omega)
    have e : -x * -x = x * x := by grind
    omega
theorem sq_pos {x : Int} (h : x ≠ 0) : 0 < x * x := by
  have h1 := sq_nn x
  have h2 : x * x ≠ 0 := Int.mul_ne_zero h h
  omega
theorem lnD_eq {a b c A B C : Int} (h1 : a / (g3 a b c : Int) = A) (h2 : b / (g3 a b c : Int) = B) (h3 : c / (g3 a b c : Int) = C) : lnD a b c = P3 A B C := by unfold lnD; rw [h1, h2, h3]

/-! ### the draws of a feed that is a dict -/
def Ff (n : Nat) (d : D) : Prop := ∃ (cells : List Int) (p l : Int), d = feedD (.lst (cells.map .int)) (.int p) (.int l) ∧ cells.length ≤ 63 ∧ 0 ≤ p ∧ p < n
theorem Ff.mono {n m : Nat} {d : D} (h : Ff n d) (l : n ≤ m) : Ff m d := by
  obtain ⟨c, p, q, e, h1, h2, h3⟩ := h
  exact ⟨c, p, q, e, h1, h2, by omega⟩
/-! ### spots: a dict's keys -/
def stD (sp : List (Int × Int)) : List (List Key × D) := sp.map fun p => ([Sum.inl p.1, Sum.inl p.2], .bl true)
def addS (sp : List (Int × Int)) (p : Int × Int) : List (Int × Int) := if p ∈ sp then sp else sp ++ [p]
theorem stD_any (sp : List (Int × Int)) (x y : Int) : ((stD sp).any fun kv => decide (kv.1 = [Sum.inl x, Sum.inl y])) = decide ((x, y) ∈ sp) := by
  induction sp with
  | nil => rfl
  | cons p sp ih =>
    have e : stD (p :: sp) = ([Sum.inl p.1, Sum.inl p.2], .bl true) :: stD sp := rfl
    rw [e, List.any_cons, ih]
    obtain ⟨a, b⟩ := p
    by_cases h : a = x ∧ b = y
    · obtain ⟨rfl, rfl⟩ := h
      simp
    · have h1 : ([Sum.inl a, Sum.inl b] : List Key) ≠ [Sum.inl x, Sum.inl y] := fun e => h (by simpa using e)
      have h2 : (x, y) ≠ (a, b) := fun e => h (by cases e; exact ⟨rfl, rfl⟩)
      simp [h1, h2]
theorem stD_same {sp : List (Int × Int)} {x y : Int} : (stD sp).map (fun kv => if kv.1 = [Sum.inl x, Sum.inl y] then (kv.1, D.bl true) else kv) = stD sp := by
  unfold stD
  rw [List.map_map]
  apply List.map_congr_left
  intro p _
  simp only [Function.comp]
  split <;> rfl
theorem pk_st (sp : List (Int × Int)) (x y : Int) : pk (stD sp) [Sum.inl x, Sum.inl y] (.bl true) = stD (addS sp (x, y)) := by
  unfold pk addS
  rw [stD_any]
  by_cases h : (x, y) ∈ sp
  · rw [if_pos (decide_eq_true h), if_pos h, stD_same]
  · rw [if_neg (by simpa using h), if_neg h]
    unfold stD
    rw [List.map_append]; rfl
theorem q_ptS {sp : List (Int × Int)} {x y : Int} {kk : D → Prop} : ptK (.dtt (stD sp)) (P2 x y) (.bl true) kk = (sp.length < 1000 ∧ kk (.dtt (stD (addS sp (x, y))))) := by
  apply propext
  constructor
  · rintro ⟨ks, kvs, e1, e2, h1, h2⟩
    cases e2
    have : ks = [Sum.inl x, Sum.inl y] := by
      simp only [D.tup.injEq] at e1
      match ks, e1 with
      | [], e1 => simp at e1
      | [_], e1 => simp at e1
      | _ :: _ :: _ :: _, e1 => simp at e1
      | [a, b], e1 =>
        simp only [List.map_cons, List.map_nil, List.cons.injEq, and_true] at e1
        cases a with
        | inl i => cases b with
          | inl j => simp [kD] at e1; rw [e1.1, e1.2]
          | inr j => simp [kD] at e1
        | inr i => simp [kD] at e1
    subst this
    rw [pk_st] at h2
    exact ⟨by simpa [stD] using h1, h2⟩
  · rintro ⟨h1, h2⟩
    exact ⟨[Sum.inl x, Sum.inl y], _, rfl, rfl, by simpa [stD] using h1, by rw [pk_st]; exact h2⟩
theorem q_ls {sp : List (Int × Int)} {P : D → Prop} : gListT [.dtt (stD sp)] P = P (.lst (sp.map p2)) := by
  rw [q_listT0]
  unfold stD
  rw [List.map_map]
  rfl
theorem addS_len (sp : List (Int × Int)) (p : Int × Int) : (addS sp p).length ≤ sp.length + 1 := by unfold addS; split <;> simp
theorem addS_nd {sp : List (Int × Int)} {p : Int × Int} (h : sp.Nodup) : (addS sp p).Nodup := by
  unfold addS
  split
  · exact h
  · rename_i n
    rw [List.nodup_append]
    refine ⟨h, by simp, ?_⟩
    intro a ha b hb e
    simp only [List.mem_singleton] at hb
    subst hb e
    exact n ha
theorem addS_mem {sp : List (Int × Int)} {p q : Int × Int} (h : q ∈ addS sp p) : q ∈ sp ∨ q = p := by
  unfold addS at h
  split at h
  · exact .inl h
  · rcases List.mem_append.mp h with h | h
    · exact .inl h
    · exact .inr (by simpa using h)
theorem addS_ne (sp : List (Int × Int)) (p : Int × Int) : addS sp p ≠ [] := by
  unfold addS
  split
  · rename_i h; exact fun e => by rw [e] at h; cases h
  · simp

/-! ### numbers with roots -/
/-- the sign of w and the root of s more -/
def r1I (w s : Int) : Int := if 0 ≤ w.sign * s.sign then (w.sign + s.sign).sign else w.sign * (w * w - s).sign
/-- the sign of w and the root of x more, the root of y less -/
def r2I (w x y : Int) : Int := if 0 ≤ w.sign * (x - y).sign then (w.sign + (x - y).sign).sign else w.sign * r1I (w * w - x - y) (4 * x * y)
/-- as a law reckons it, x not less than y -/
def r0I (w x y : Int) : Int := if 0 ≤ w then (if 0 < w ∨ y < x then 1 else 0) else if x + y - w * w < 0 then -1 else ((x + y - w * w) * (x + y - w * w) - 4 * x * y).sign
theorem sgn_cases (n : Int) : (n < 0 ∧ n.sign = -1) ∨ (n = 0 ∧ n.sign = 0) ∨ (0 < n ∧ n.sign = 1) := by
  rcases Int.lt_trichotomy n 0 with h | h | h
  · exact .inl ⟨h, Int.sign_eq_neg_one_of_neg h⟩
  · exact .inr (.inl ⟨h, by rw [h]; rfl⟩)
  · exact .inr (.inr ⟨h, Int.sign_eq_one_of_pos h⟩)
theorem r0_r2 {w x y : Int} (hy : 0 ≤ y) (h : y ≤ x) : r2I w x y = r0I w x y := by
  unfold r2I r0I
  rcases sgn_cases w with ⟨a, e⟩ | ⟨a, e⟩ | ⟨a, e⟩ <;> rcases sgn_cases (x - y) with ⟨b, f⟩ | ⟨b, f⟩ | ⟨b, f⟩ <;> rw [e, f] <;> try (exfalso; omega)
  · -- w below 0, x = y
    rw [if_pos (by decide), if_neg (by omega)]
    have exy : x = y := by omega
    subst exy
    have hp : 0 < w * w := sq_pos (by omega)
    by_cases hr : x + x - w * w < 0
    · rw [if_pos hr]; rfl
    · rw [if_neg hr]
      generalize w * w = p at *
      have : (x + x - p) * (x + x - p) - 4 * x * x < 0 := by
        have e1 : (x + x - p) * (x + x - p) - 4 * x * x = -(p * (4 * x - p)) := by grind
        rw [e1]
        have := Int.mul_pos hp (show 0 < 4 * x - p by omega)
        omega
      rw [Int.sign_eq_neg_one_of_neg this]; rfl
  · -- w below 0, x above y
    rw [if_neg (by decide), if_neg (by omega)]
    have e2 : w * w - x - y = -(x + y - w * w) := by omega
    rw [e2]
    have hxy : 0 ≤ x * y := Int.mul_nonneg (by omega) hy
    have e3 : 4 * x * y = 4 * (x * y) := by grind
    rw [e3]
    generalize x + y - w * w = r at *
    generalize x * y = m at *
    unfold r1I
    have sq : -r * -r = r * r := by grind
    rw [sq]
    rcases sgn_cases r with ⟨c, g⟩ | ⟨c, g⟩ | ⟨c, g⟩
    · rw [if_pos c, Int.sign_neg, g]
      rcases sgn_cases (4 * m) with ⟨d, k⟩ | ⟨d, k⟩ | ⟨d, k⟩ <;> rw [k]
      · exfalso; omega
      · rw [if_pos (show (0 : Int) ≤ - -1 * 0 by decide)]; decide
      · rw [if_pos (show (0 : Int) ≤ - -1 * 1 by decide)]; decide
    · subst c
      rw [if_neg (show ¬ ((0 : Int) < 0) by decide), if_pos (show (0 : Int) ≤ (-0 : Int).sign * (4 * m).sign by simp), show (0 : Int) * 0 - 4 * m = -(4 * m) by omega, Int.sign_neg (4 * m), show (-0 : Int).sign + (4 * m).sign = (4 * m).sign by simp]
      rcases sgn_cases (4 * m) with ⟨d, k⟩ | ⟨d, k⟩ | ⟨d, k⟩ <;> rw [k] <;> decide
    · rw [if_neg (show ¬ r < 0 by omega), Int.sign_neg, g]
      have hp : 0 < r * r := Int.mul_pos c c
      rcases sgn_cases (4 * m) with ⟨d, k⟩ | ⟨d, k⟩ | ⟨d, k⟩
      · exfalso; omega
      · rw [k, d, Int.sub_zero, Int.sign_eq_one_of_pos hp, if_pos (show (0 : Int) ≤ -1 * 0 by decide)]
        decide
      · rw [k, if_neg (show ¬ ((0 : Int) ≤ -1 * 1) by decide)]
        omega
  · rw [if_pos (by decide), if_pos (by omega), if_neg (by omega)]; rfl
  · rw [if_pos (by decide), if_pos (by omega), if_pos (by omega)]; rfl
  · rw [if_pos (by decide), if_pos (by omega), if_pos (by omega)]; rfl
  · rw [if_pos (by decide), if_pos (by omega), if_pos (by omega)]; rfl
theorem r2_neg (w x y : Int) : r2I (-w) y x = - r2I w x y := by
  unfold r2I
  rw [Int.sign_neg, show y - x = -(x - y) by omega, Int.sign_neg, show -w * -w = w * w by grind, show w * w - y - x = w * w - x - y by omega, show 4 * y * x = 4 * x * y by grind]
  generalize r1I (w * w - x - y) (4 * x * y) = r
  have e1 : -w.sign * -(x - y).sign = w.sign * (x - y).sign := by grind
  rw [e1]
  split
  · rw [show -w.sign + -(x - y).sign = -(w.sign + (x - y).sign) by omega, Int.sign_neg]
  · grind
theorem r2_zero (x : Int) : r2I 0 x x = 0 := by
  unfold r2I
  rw [Int.sub_self]; rfl

/-! ### boxes, spots, what is nearest -/
abbrev bxD (x y u v : Int) : D := .tup [.int x, .int y, .int u, .int v]
theorem compS_fil {α : Type} {tg : DG} {tt : DT} {fe : DE} {vs : List Nat} {Q : List D → DEnv → Prop} {u : Tag Q} (δ0 : DEnv) (f g : α → D) (p : α → Bool) : ∀ (xs : List α) (acc : List D), acc.length + xs.length ≤ sizeLine →
    (∀ x ∈ xs, ∀ (KT : D → DEnv → Prop) (KF : DEnv → Prop), (p x = true → ∀ δ', wipeD δ' vs = δ0 → KT (g x) δ') → (p x = false → ∀ δ', wipeD δ' vs = δ0 → KF δ') → tg (f x) δ0 fun δ1 => tt δ1 (fun b δ2 => sif b (fun δ2 => fe δ2 KT xF) KF () () δ2) xF) →
    Q (acc ++ (xs.filter p).map g) δ0 → compS tg tt fe vs Q u (xs.map f) acc δ0
  | [], acc, _, _, hq => by
    rw [List.filter_nil, List.map_nil, List.append_nil] at hq
    exact hq
  | x :: xs, acc, hl, hs, hq => by
    simp only [List.length_cons] at hl
    refine hs x (by simp) (fun y δ3 => acc.length < sizeLine ∧ compD tg tt fe vs (xs.map f) (acc ++ [y]) (wipeD δ3 vs) Q) (fun δ2 => compD tg tt fe vs (xs.map f) acc (wipeD δ2 vs) Q) (fun e δ' hw => ?_) (fun e δ' hw => ?_)
    · rw [hw]
      refine ⟨by omega, ?_⟩
      refine compS_fil (u := ()) δ0 f g p xs (acc ++ [g x]) (by simp only [List.length_append, List.length_cons, List.length_nil]; omega) (fun d' hd' => hs d' (by simp [hd'])) ?_
      rw [List.filter_cons_of_pos (by simpa using e), List.map_cons] at hq
      rw [List.append_assoc]
      exact hq
    · rw [hw]
      refine compS_fil (u := ()) δ0 f g p xs acc (by omega) (fun d' hd' => hs d' (by simp [hd'])) ?_
      rw [List.filter_cons_of_neg (by simp [e])] at hq
      exact hq
def mnI : List Int → Int
  | [] => 0
  | [a] => a
  | a :: b :: r => min a (mnI (b :: r))
theorem mnI_mem : ∀ (ns : List Int), ns ≠ [] → mnI ns ∈ ns
  | [], h => absurd rfl h
  | [a], _ => by simp [mnI]
  | a :: b :: r, _ => by
    have := mnI_mem (b :: r) (by simp)
    unfold mnI
    rcases Int.le_total a (mnI (b :: r)) with h | h
    · rw [Int.min_eq_left h]; simp
    · rw [Int.min_eq_right h]; exact List.mem_cons_of_mem _ this
theorem mnI_le : ∀ (ns : List Int) (y : Int), y ∈ ns → mnI ns ≤ y
  | [], y, h => by cases h
  | [a], y, h => by simp at h; subst h; exact Int.le_refl _
  | a :: b :: r, y, h => by
    unfold mnI
    rcases List.mem_cons.mp h with e | e
    · subst e; exact Int.min_le_left _ _
    · exact Int.le_trans (Int.min_le_right _ _) (mnI_le (b :: r) y e)
theorem mnI_eq {ns : List Int} {m : Int} (h1 : m ∈ ns) (h2 : ∀ y, y ∈ ns → m ≤ y) : m = mnI ns := by
  have a := mnI_le ns m h1
  have b := h2 _ (mnI_mem ns (fun e => by rw [e] at h1; cases h1))
  omega
/-- the places of the least -/
def nrL (ns : List Int) : List Nat := (List.range ns.length).filter fun k => decide (ns[k]? = some (mnI ns))
abbrev ntD (k : Nat) : D := .int (k : Int)
/-- a point in the box -/
def inB (x y u v a b : Int) : Bool := decide (x ≤ a) && decide (a ≤ u) && (decide (y ≤ b) && decide (b ≤ v))
theorem eqd_p2 (p q : Int × Int) : eqd (p2 p) (p2 q) = decide (p = q) := by
  obtain ⟨a, b⟩ := p
  obtain ⟨c, d⟩ := q
  rw [eqd_tup, eqds_cons, eqds_cons, eqds_nil, eqd_int, eqd_int, Bool.and_true]
  by_cases h : a = c ∧ b = d
  · obtain ⟨rfl, rfl⟩ := h; simp
  · rw [decide_eq_false (p := (a, b) = (c, d)) (fun e => h (by cases e; exact ⟨rfl, rfl⟩))]
    simp only [Bool.and_eq_false_iff, decide_eq_false_iff_not]
    omega
theorem any_p2 (sp : List (Int × Int)) (q : Int × Int) : ((sp.map p2).any fun z => eqd z (p2 q)) = decide (q ∈ sp) := by
  induction sp with
  | nil => rfl
  | cons p sp ih =>
    rw [List.map_cons, List.any_cons, ih, eqd_p2]
    by_cases h : p = q
    · subst h; simp
    · have : q ≠ p := fun e => h e.symm
      simp [h, this]
theorem shp_p2s (sp : List (Int × Int)) : shp (.lst (sp.map p2)) = true := (Cl.lstOf (f := p2) (k := 1) fun p => Cl.p2 p).shp (by decide)
theorem nd_take {α : Type} {l : List α} (h : l.Nodup) {i : Nat} {x : α} (e : l[i]? = some x) : x ∉ l.take i := fun hm => by
  obtain ⟨j, hj, ej⟩ := List.mem_iff_getElem.mp hm
  rw [List.length_take] at hj
  rw [List.getElem_take] at ej
  have hi : i < l.length := (List.getElem?_eq_some_iff.mp e).1
  have ei := (List.getElem?_eq_some_iff.mp e).2
  have := (List.nodup_iff_pairwise_ne.mp h)
  rw [List.pairwise_iff_getElem] at this
  exact this j i (by omega) hi (by omega) (ej.trans ei.symm)
/-- what box and spots must be -/
def BxOk (x y u v : Int) (sp : List (Int × Int)) : Prop := x < u ∧ y < v ∧ sp ≠ [] ∧ sp.length ≤ 12 ∧ sp.Nodup ∧ ∀ p ∈ sp, inB x y u v p.1 p.2 = true
/-- the holders of a point -/
def hldL (x y u v : Int) (sp : List (Int × Int)) (a b w : Int) : List D := if inB (x * w) (y * w) (u * w) (v * w) a b = true then (nrL (sp.map fun p => ftI a b w p.1 p.2)).map ntD else []
theorem shp_nts (l : List Nat) : shp (.lst (l.map ntD)) = true := (Cl.lstOf (f := ntD) (k := 1) fun p => (Cl.int _).mono (by decide)).shp (by decide)
/-- how great the numbers of spots and boxes may be -/
def Sp (x : Int) : Prop := -1000000000000000000000000000000 ≤ x ∧ x ≤ 1000000000000000000000000000000
def Sm (x : Int) : Prop := -1000000000000000000000000000100 ≤ x ∧ x ≤ 1000000000000000000000000000100
theorem Sp.sm {x : Int} (h : Sp x) : Sm x := by unfold Sp at h; unfold Sm; omega
theorem Sm.z {x : Int} (h : Sm x) : Zb 200 x := by unfold Sm at h; exact Zb.rg (by omega)
theorem Sm.z2 {x y : Int} (h : Sm x) (h' : Sm y) : Z2 x y := z2m h.z h'.z (by decide)
theorem Sp.rg {x : Int} (h1 : -1000000000000000000000000000000 ≤ x) (h2 : x ≤ 1000000000000000000000000000000) : Sp x := ⟨h1, h2⟩
theorem compS_filI {α : Type} {tg : DG} {tt : DT} {fe : DE} {vs : List Nat} {Q : List D → DEnv → Prop} {u : Tag Q} (I : DEnv → Prop) (f g : α → D) (p : α → Bool) : ∀ (xs : List α) (acc : List D) (δ : DEnv), I δ → acc.length + xs.length ≤ sizeLine →
    (∀ x ∈ xs, ∀ δ0, I δ0 → ∀ (KT : D → DEnv → Prop) (KF : DEnv → Prop), (p x = true → ∀ δ', I (wipeD δ' vs) → KT (g x) δ') → (p x = false → ∀ δ', I (wipeD δ' vs) → KF δ') → tg (f x) δ0 fun δ1 => tt δ1 (fun b δ2 => sif b (fun δ2 => fe δ2 KT xF) KF () () δ2) xF) →
    (∀ δ', I δ' → Q (acc ++ (xs.filter p).map g) δ') → compS tg tt fe vs Q u (xs.map f) acc δ
  | [], acc, δ, hI, _, _, hq => by
    have := hq δ hI
    rw [List.filter_nil, List.map_nil, List.append_nil] at this
    exact this
  | x :: xs, acc, δ, hI, hl, hs, hq => by
    simp only [List.length_cons] at hl
    refine hs x (by simp) δ hI (fun y δ3 => acc.length < sizeLine ∧ compD tg tt fe vs (xs.map f) (acc ++ [y]) (wipeD δ3 vs) Q) (fun δ2 => compD tg tt fe vs (xs.map f) acc (wipeD δ2 vs) Q) (fun e δ' hw => ?_) (fun e δ' hw => ?_)
    · refine ⟨by omega, ?_⟩
      refine compS_filI (u := ()) I f g p xs (acc ++ [g x]) _ hw (by simp only [List.length_append, List.length_cons, List.length_nil]; omega) (fun d' hd' => hs d' (by simp [hd'])) ?_
      intro δ2 h2
      have := hq δ2 h2
      rw [List.filter_cons_of_pos (by simpa using e), List.map_cons] at this
      rw [List.append_assoc]
      exact this
    · refine compS_filI (u := ()) I f g p xs acc _ hw (by omega) (fun d' hd' => hs d' (by simp [hd'])) ?_
      intro δ2 h2
      have := hq δ2 h2
      rw [List.filter_cons_of_neg (by simp [e])] at this
      exact this

/-! ### meetings of lines, whatever they are multiplied by -/
theorem g3_mul {k : Int} (x y w : Int) (h : 0 < k) : (g3 (k * x) (k * y) (k * w) : Int) = k * (g3 x y w : Int) := by
  have e1 : (Int.gcd (k * x) (k * y) : Int) = k * (Int.gcd x y : Int) := by
    rw [Int.gcd_mul_left, Int.natCast_mul, Int.natAbs_of_nonneg (by omega)]
  unfold g3
  rw [e1, Int.gcd_mul_left, Int.natCast_mul, Int.natAbs_of_nonneg (by omega)]
theorem by3_mul {k x y w : Int} (h : 0 < k) : by3 (k * x) (k * y) (k * w) = k * by3 x y w := by
  unfold by3
  rw [g3_mul x y w h]
  by_cases c : w < 0
  · rw [if_pos c, if_pos (Int.mul_neg_of_pos_of_neg h c)]; grind
  · rw [if_neg c, if_neg (by have := Int.mul_nonneg (show 0 ≤ k by omega) (show 0 ≤ w by omega); omega)]
theorem ptD_mul {k x y w : Int} (h : 0 < k) : ptD (k * x) (k * y) (k * w) = ptD x y w := by
  unfold ptD
  rw [by3_mul h, Int.mul_ediv_mul_of_pos _ _ h, Int.mul_ediv_mul_of_pos _ _ h, Int.mul_ediv_mul_of_pos _ _ h]
theorem mtD_mul {g h A B C X Y Z : Int} (hg : 0 < g) (hh : 0 < h) : mtD (g * A) (g * B) (g * C) (h * X) (h * Y) (h * Z) = mtD A B C X Y Z := by
  have gh : 0 < g * h := Int.mul_pos hg hh
  have e1 : g * A * (h * Y) - h * X * (g * B) = g * h * (A * Y - X * B) := by grind
  have e2 : g * C * (h * Y) - h * Z * (g * B) = g * h * (C * Y - Z * B) := by grind
  have e3 : g * A * (h * Z) - h * X * (g * C) = g * h * (A * Z - X * C) := by grind
  unfold mtD
  rw [e1, e2, e3, ptD_mul gh]
  by_cases c : A * Y - X * B = 0
  · rw [if_pos c, if_pos (by rw [c]; simp)]
  · rw [if_neg c, if_neg (Int.mul_ne_zero (by omega) c)]
/-- the lines between three spots: what meets -/
theorem mtD_ln {a b c x y z : Int} (h1 : a ≠ 0 ∨ b ≠ 0) (h2 : x ≠ 0 ∨ y ≠ 0) :
    mtD (a / (g3 a b c : Int)) (b / (g3 a b c : Int)) (c / (g3 a b c : Int)) (x / (g3 x y z : Int)) (y / (g3 x y z : Int)) (z / (g3 x y z : Int)) = mtD a b c x y z := by
  have e1 := Int.mul_ediv_cancel' (g3_da a b c)
  have e2 := Int.mul_ediv_cancel' (g3_db a b c)
  have e3 := Int.mul_ediv_cancel' (g3_dc a b c)
  have f1 := Int.mul_ediv_cancel' (g3_da x y z)
  have f2 := Int.mul_ediv_cancel' (g3_db x y z)
  have f3 := Int.mul_ediv_cancel' (g3_dc x y z)
  have r := mtD_mul (A := a / (g3 a b c : Int)) (B := b / (g3 a b c : Int)) (C := c / (g3 a b c : Int)) (X := x / (g3 x y z : Int)) (Y := y / (g3 x y z : Int)) (Z := z / (g3 x y z : Int)) (g3_pos2 c h1) (g3_pos2 z h2)
  rw [e1, e2, e3, f1, f2, f3] at r
  exact r.symm
theorem mtD_cyc {a b c x y z : Int} : mtD x y z (-(a + x)) (-(b + y)) (-(c + z)) = mtD a b c x y z := by
  unfold mtD
  rw [show x * -(b + y) - -(a + x) * y = a * y - x * b by grind, show z * -(b + y) - -(c + z) * y = c * y - z * b by grind, show x * -(c + z) - -(a + x) * z = a * z - x * c by grind]
theorem ax_sumA (a c e : Int) : axA e a = -(axA a c + axA c e) := by unfold axA; omega
theorem ax_sumC (a b c d e f : Int) : axC e f 0 a b 0 = -(axC a b 0 c d 0 + axC c d 0 e f 0) := by unfold axC; omega
/-- a point where the first two lines meet is as near to all three -/
theorem ft_meet {a b c d e f X Y W : Int} {x y w : Int} (hx : x = axC a b 0 c d 0 * axA d f - axC c d 0 e f 0 * axA b d) (hy : y = axA a c * axC c d 0 e f 0 - axA c e * axC a b 0 c d 0) (hw : w = axA a c * axA d f - axA c e * axA b d)
    (hn : w ≠ 0) (eX : X * w = x * W) (eY : Y * w = y * W) : ftI X Y W a b = ftI X Y W c d ∧ ftI X Y W c d = ftI X Y W e f := by
  have h1 : w * htI (axA a c) (axA b d) (axC a b 0 c d 0) X Y W = 0 := by
    have : w * htI (axA a c) (axA b d) (axC a b 0 c d 0) X Y W = axA a c * (X * w) + axA b d * (Y * w) - axC a b 0 c d 0 * W * w := by unfold htI; grind
    rw [this, eX, eY, hx, hy, hw]
    generalize axA a c = A1
    generalize axA b d = B1
    generalize axA c e = A2
    generalize axA d f = B2
    generalize axC a b 0 c d 0 = C1
    generalize axC c d 0 e f 0 = C2
    grind
  have h2 : w * htI (axA c e) (axA d f) (axC c d 0 e f 0) X Y W = 0 := by
    have : w * htI (axA c e) (axA d f) (axC c d 0 e f 0) X Y W = axA c e * (X * w) + axA d f * (Y * w) - axC c d 0 e f 0 * W * w := by unfold htI; grind
    rw [this, eX, eY, hx, hy, hw]
    generalize axA a c = A1
    generalize axA b d = B1
    generalize axA c e = A2
    generalize axA d f = B2
    generalize axC a b 0 c d 0 = C1
    generalize axC c d 0 e f 0 = C2
    grind
  have k1 := (Int.mul_eq_zero.mp h1).resolve_left hn
  have k2 := (Int.mul_eq_zero.mp h2).resolve_left hn
  have f1 := ax_ft a b 0 c d 0 X Y W
  have f2 := ax_ft c d 0 e f 0 X Y W
  rw [k1] at f1
  rw [k2] at f2
  simp at f1 f2
  omega
theorem ax_tw (a b c d e f : Int) : axA a c * axA d f - axA c e * axA b d = 4 * twI a b 1 c d 1 e f 1 := by unfold axA twI; grind
theorem two_few {α : Type} {m : List α} (nd : m.Nodup) {u v : α} (h : ∀ x ∈ m, x = u ∨ x = v) : m.length ≤ 2 := by
  match m, nd, h with
  | [], _, _ => simp
  | [_], _, _ => simp
  | [_, _], _, _ => simp
  | x :: y :: z :: r, nd, h =>
    have h1 := h x (by simp)
    have h2 := h y (by simp)
    have h3 := h z (by simp)
    simp only [List.nodup_cons, List.mem_cons, not_or] at nd
    rcases h1 with h1 | h1 <;> rcases h2 with h2 | h2 <;> rcases h3 with h3 | h3 <;> simp_all
theorem three {a b c d e f : Int} (n1 : ¬ (a = c ∧ b = d)) (n2 : ¬ (c = e ∧ d = f)) (n3 : ¬ (e = a ∧ f = b)) (za : Zb 200 a) (zb : Zb 200 b) (zc : Zb 200 c) (zd : Zb 200 d) (ze : Zb 200 e) (zf : Zb 200 f) :
    ∃ α1 β1 γ1 α2 β2 γ2 α3 β3 γ3 : Int, axD a b 0 c d 0 = P3 α1 β1 γ1 ∧ axD c d 0 e f 0 = P3 α2 β2 γ2 ∧ axD e f 0 a b 0 = P3 α3 β3 γ3 ∧
      (Zb 2000 α1 ∧ Zb 2000 β1 ∧ Zb 2000 γ1) ∧ (Zb 2000 α2 ∧ Zb 2000 β2 ∧ Zb 2000 γ2) ∧ (Zb 2000 α3 ∧ Zb 2000 β3 ∧ Zb 2000 γ3) ∧
      (twI a b 1 c d 1 e f 1 = 0 → mtD α1 β1 γ1 α2 β2 γ2 = .non ∧ mtD α2 β2 γ2 α3 β3 γ3 = .non ∧ mtD α3 β3 γ3 α1 β1 γ1 = .non) ∧
      (twI a b 1 c d 1 e f 1 ≠ 0 → ∃ X Y W : Int, 0 < W ∧ Zb 20000 X ∧ Zb 20000 Y ∧ Zb 4000 W ∧ mtD α1 β1 γ1 α2 β2 γ2 = P3 X Y W ∧ mtD α2 β2 γ2 α3 β3 γ3 = P3 X Y W ∧ mtD α3 β3 γ3 α1 β1 γ1 = P3 X Y W ∧
        ftI X Y W a b = ftI X Y W c d ∧ ftI X Y W c d = ftI X Y W e f ∧ (htI α1 β1 γ1 X Y W).sign = 0 ∧ (htI α2 β2 γ2 X Y W).sign = 0 ∧ (htI α3 β3 γ3 X Y W).sign = 0) := by
  have gA1 : Zb 600 (axA a c) := by unfold axA; walk_at "zm"
  have gB1 : Zb 600 (axA b d) := by unfold axA; walk_at "zm"
  have gA2 : Zb 600 (axA c e) := by unfold axA; walk_at "zm"
  have gB2 : Zb 600 (axA d f) := by unfold axA; walk_at "zm"
  have gA3 : Zb 600 (axA e a) := by unfold axA; walk_at "zm"
  have gB3 : Zb 600 (axA f b) := by unfold axA; walk_at "zm"
  have gC1 : Zb 1900 (axC a b 0 c d 0) := by unfold axC; walk_at "zm"
  have gC2 : Zb 1900 (axC c d 0 e f 0) := by unfold axC; walk_at "zm"
  have gC3 : Zb 1900 (axC e f 0 a b 0) := by unfold axC; walk_at "zm"
  have q : ∀ {n : Nat} {x s : Int}, Zb n x → n ≤ 2000 → Zb 2000 (x / s) := fun h l => (Zb.quot h).mono l
  have m12 := mtD_ln (c := axC a b 0 c d 0) (z := axC c d 0 e f 0) (ax_ne n1) (ax_ne n2)
  have m23 := mtD_ln (c := axC c d 0 e f 0) (z := axC e f 0 a b 0) (ax_ne n2) (ax_ne n3)
  have m31 := mtD_ln (c := axC e f 0 a b 0) (z := axC a b 0 c d 0) (ax_ne n3) (ax_ne n1)
  have r23 : mtD (axA c e) (axA d f) (axC c d 0 e f 0) (axA e a) (axA f b) (axC e f 0 a b 0) = mtD (axA a c) (axA b d) (axC a b 0 c d 0) (axA c e) (axA d f) (axC c d 0 e f 0) := by
    rw [ax_sumA a c e, ax_sumA b d f, ax_sumC a b c d e f]; exact mtD_cyc
  have r31 : mtD (axA e a) (axA f b) (axC e f 0 a b 0) (axA a c) (axA b d) (axC a b 0 c d 0) = mtD (axA c e) (axA d f) (axC c d 0 e f 0) (axA e a) (axA f b) (axC e f 0 a b 0) := by
    rw [ax_sumA c e a, ax_sumA d f b, ax_sumC c d e f a b]; exact mtD_cyc
  refine ⟨_, _, _, _, _, _, _, _, _, rfl, rfl, rfl, ⟨q gA1 (by decide), q gB1 (by decide), q gC1 (by decide)⟩, ⟨q gA2 (by decide), q gB2 (by decide), q gC2 (by decide)⟩, ⟨q gA3 (by decide), q gB3 (by decide), q gC3 (by decide)⟩, fun h => ?_, fun h => ?_⟩
  · rw [m12, m23, m31, r31, r23]
    have : mtD (axA a c) (axA b d) (axC a b 0 c d 0) (axA c e) (axA d f) (axC c d 0 e f 0) = .non := by
      unfold mtD
      rw [if_pos (by rw [ax_tw, h]; rfl)]
    exact ⟨this, this, this⟩
  · have hn : axA a c * axA d f - axA c e * axA b d ≠ 0 := by rw [ax_tw]; omega
    have ee : mtD (axA a c) (axA b d) (axC a b 0 c d 0) (axA c e) (axA d f) (axC c d 0 e f 0) = ptD (axC a b 0 c d 0 * axA d f - axC c d 0 e f 0 * axA b d) (axA a c * axC c d 0 e f 0 - axA c e * axC a b 0 c d 0) (axA a c * axA d f - axA c e * axA b d) := by
      unfold mtD
      rw [if_neg hn]
    rw [m12, m23, m31, r31, r23, ee]
    have zx : Zb 20000 (axC a b 0 c d 0 * axA d f - axC c d 0 e f 0 * axA b d) := by walk_at "zm"
    have zy : Zb 20000 (axA a c * axC c d 0 e f 0 - axA c e * axC a b 0 c d 0) := by walk_at "zm"
    have zw : Zb 4000 (axA a c * axA d f - axA c e * axA b d) := by walk_at "zm"
    have ft := ft_meet (a := a) (b := b) (c := c) (d := d) (e := e) (f := f) rfl rfl rfl hn (by3_eqx (x := axC a b 0 c d 0 * axA d f - axC c d 0 e f 0 * axA b d) (y := axA a c * axC c d 0 e f 0 - axA c e * axC a b 0 c d 0) (w := axA a c * axA d f - axA c e * axA b d)) (by3_eqy (x := axC a b 0 c d 0 * axA d f - axC c d 0 e f 0 * axA b d) (y := axA a c * axC c d 0 e f 0 - axA c e * axC a b 0 c d 0) (w := axA a c * axA d f - axA c e * axA b d))
    have wp := by3_w (x := axC a b 0 c d 0 * axA d f - axC c d 0 e f 0 * axA b d) (y := axA a c * axC c d 0 e f 0 - axA c e * axC a b 0 c d 0) hn
    refine ⟨_, _, _, wp, Zb.quot zx, Zb.quot zy, Zb.quot zw, rfl, rfl, rfl, ft.1, ft.2, ?_, ?_, ?_⟩
    · rw [ax_sign n1 wp, ft.1, Int.sub_self]; rfl
    · rw [ax_sign n2 wp, ft.2, Int.sub_self]; rfl
    · rw [ax_sign n3 wp, ← ft.2, ← ft.1, Int.sub_self]; rfl

/-! ### cut fields: what is computed -/
theorem Zb.addm {n : Nat} {x y : Int} (h : Zb n x) (l : Zb n y) : Zb (n + 1) (x + y) := by
  have h' : x.natAbs < 2 ^ n := h
  have l' : y.natAbs < 2 ^ n := l
  show (x + y).natAbs < 2 ^ (n + 1)
  rw [Nat.pow_succ]
  omega
theorem Zb.subm {n : Nat} {x y : Int} (h : Zb n x) (l : Zb n y) : Zb (n + 1) (x - y) := by
  have h' : x.natAbs < 2 ^ n := h
  have l' : y.natAbs < 2 ^ n := l
  show (x - y).natAbs < 2 ^ (n + 1)
  rw [Nat.pow_succ]
  omega
theorem Zb.absI {n : Nat} {x : Int} (h : Zb n x) : Zb n (if x < 0 then -x else x) := by
  have h' : x.natAbs < 2 ^ n := h
  show (if x < 0 then -x else x).natAbs < 2 ^ n
  split <;> omega
abbrev ab (x : Int) : Int := if x < 0 then -x else x
def Zc (n : Nat) (c : C3) : Prop := Zb n c.1 ∧ Zb n c.2.1 ∧ Zb n c.2.2
theorem Zc.mono {n m : Nat} {c : C3} (h : Zc n c) (l : n ≤ m) : Zc m c := ⟨h.1.mono l, h.2.1.mono l, h.2.2.mono l⟩
/-- three numbers in lowest terms -/
def nr3 (x y w : Int) : C3 := (x / by3 x y w, y / by3 x y w, w / by3 x y w)
theorem ptD_nr (x y w : Int) : ptD x y w = p3 (nr3 x y w) := rfl
def htC (l c : C3) : Int := htI l.1 l.2.1 l.2.2 c.1 c.2.1 c.2.2
theorem htC_z {n m : Nat} {l c : C3} (h1 : Zc n l) (h2 : Zc m c) : Zb (n + m + 2) (htC l c) := by
  have a := h1.1.mul h2.1
  have b := h1.2.1.mul h2.2.1
  have d := h1.2.2.mul h2.2.2
  exact Zb.subm (Zb.addm a b) (d.mono (by omega))
/-- the point between -/
def cxC (c d : C3) (h t : Int) : C3 := nr3 (c.1 * ab t + d.1 * ab h) (c.2.1 * ab t + d.2.1 * ab h) (c.2.2 * ab t + d.2.2 * ab h)
def cutP (num : Int) (c : C3) (e h : Int) (d : C3) (t : Int) : List (C3 × Int) :=
  (if h < 0 ∨ h = 0 ∧ t < 0 then [(c, e)] else if h = 0 then [(c, num)] else []) ++
  (if h < 0 ∧ 0 < t then [(cxC c d h t, num)] else if 0 < h ∧ t < 0 then [(cxC c d h t, e)] else [])
abbrev gC (cs : List C3) (i : Nat) : C3 := (cs[i]?).getD (0, 0, 0)
abbrev gE (es : List Int) (i : Nat) : Int := (es[i]?).getD 0
def cutI (cs : List C3) (es : List Int) (l : C3) (num : Int) (i : Nat) : List (C3 × Int) :=
  cutP num (gC cs i) (gE es i) (htC l (gC cs i)) (gC cs ((i + 1) % cs.length)) (htC l (gC cs ((i + 1) % cs.length)))
def cutR (cs : List C3) (es : List Int) (l : C3) (num : Int) : Nat → List (C3 × Int)
  | 0 => []
  | j + 1 => cutR cs es l num j ++ cutI cs es l num j
/-- where the least corner stands -/
def ahC (c d : C3) : Bool := ahB c.1 c.2.1 c.2.2 d.1 d.2.1 d.2.2
abbrev gR (rs : List (C3 × Int)) (i : Nat) : C3 := ((rs[i]?).getD ((0, 0, 0), 0)).1
def bgF (rs : List (C3 × Int)) : Nat → Nat
  | 0 => 0
  | k + 1 => if ahC (gR rs (k + 1)) (gR rs (bgF rs k)) = true then k + 1 else bgF rs k
theorem bgF_le (rs : List (C3 × Int)) : ∀ k, bgF rs k ≤ k
  | 0 => Nat.le_refl _
  | k + 1 => by
    unfold bgF
    split
    · exact Nat.le_refl _
    · exact Nat.le_succ_of_le (bgF_le rs k)
def rotR (rs : List (C3 × Int)) : List (C3 × Int) := rs.drop (bgF rs (rs.length - 1)) ++ rs.take (bgF rs (rs.length - 1))
abbrev fldD (cs : List C3) (es : List Int) : D := .tup [.lst (cs.map p3), .lst (es.map .int)]
def begD (rs : List (C3 × Int)) : D := fldD ((rotR rs).map (·.1)) ((rotR rs).map (·.2))
def cutD3 (cs : List C3) (es : List Int) (l : C3) (num : Int) : D :=
  if cs.all (fun c => decide (htC l c ≤ 0)) = true then fldD cs es
  else if cs.all (fun c => decide (0 ≤ htC l c)) = true then .non
  else begD (cutR cs es l num cs.length)
abbrev r3 (r : C3 × Int) : D := .tup [p3 r.1, .int r.2]
theorem get_gR {rs : List (C3 × Int)} {i : Nat} (h : i < rs.length) : rs[i]? = some (rs[i]) ∧ gR rs i = rs[i].1 := by
  have e : rs[i]? = some rs[i] := List.getElem?_eq_getElem h
  exact ⟨e, by unfold gR; rw [e]; rfl⟩
theorem get_gC {cs : List C3} {i : Nat} (h : i < cs.length) : cs[i]? = some (gC cs i) := by
  have e : cs[i]? = some cs[i] := List.getElem?_eq_getElem h
  rw [show gC cs i = cs[i] by unfold gC; rw [e]; rfl]
  exact e
theorem get_gE {cs : List Int} {i : Nat} (h : i < cs.length) : cs[i]? = some (gE cs i) := by
  have e : cs[i]? = some cs[i] := List.getElem?_eq_getElem h
  rw [show gE cs i = cs[i] by unfold gE; rw [e]; rfl]
  exact e

/-! ### strictly convex corners -/
def dt (p q r : C3) : Int := twI p.1 p.2.1 p.2.2 q.1 q.2.1 q.2.2 r.1 r.2.1 r.2.2
theorem dt_cyc (p q r : C3) : dt q r p = dt p q r := by unfold dt twI; grind
theorem dt_cyc2 (p q r : C3) : dt r p q = dt p q r := by unfold dt twI; grind
theorem dt_swap (p q r : C3) : dt q p r = -dt p q r := by unfold dt twI; grind
theorem dt_self (p r : C3) : dt p p r = 0 := by unfold dt twI; grind
theorem dt_self2 (p r : C3) : dt p r r = 0 := by unfold dt twI; grind
theorem dt_self3 (p r : C3) : dt p r p = 0 := by unfold dt twI; grind
/-- four points, and how high they stand over a line -/
theorem dt_four (l i j k m : C3) : dt j k m * htC l i + dt i j m * htC l k = dt i k m * htC l j + dt i j k * htC l m := by
  unfold dt twI htC htI
  grind
/-- in order round to the left, each three -/
def Cv : List C3 → Prop
  | [] => True
  | p :: r => r.Pairwise (fun q s => 0 < dt p q s) ∧ Cv r
theorem Cv.app : ∀ {a b : List C3}, Cv (a ++ b) ↔ Cv a ∧ Cv b ∧ (∀ p ∈ a, b.Pairwise fun q s => 0 < dt p q s) ∧ ∀ s ∈ b, a.Pairwise fun p q => 0 < dt p q s
  | [], b => by simp [Cv]
  | p :: a, b => by
    rw [List.cons_append]
    show (a ++ b).Pairwise (fun q s => 0 < dt p q s) ∧ Cv (a ++ b) ↔ (a.Pairwise (fun q s => 0 < dt p q s) ∧ Cv a) ∧ Cv b ∧ _
    rw [Cv.app, List.pairwise_append]
    constructor
    · rintro ⟨⟨h1, h2, h3⟩, h4, h5, h6, h7⟩
      refine ⟨⟨h1, h4⟩, h5, fun x hx => ?_, fun s hs => ?_⟩
      · rcases List.mem_cons.mp hx with e | e
        · subst e; exact h2
        · exact h6 x e
      · rw [List.pairwise_cons]
        exact ⟨fun q hq => h3 q hq s hs, h7 s hs⟩
    · rintro ⟨⟨h1, h4⟩, h5, h6, h7⟩
      refine ⟨⟨h1, h6 p (by simp), fun q hq s hs => ?_⟩, h4, h5, fun x hx => h6 x (by simp [hx]), fun s hs => ?_⟩
      · exact (List.pairwise_cons.mp (h7 s hs)).1 q hq
      · exact (List.pairwise_cons.mp (h7 s hs)).2
/-- begun elsewhere it is the same -/
theorem Cv.rot {a b : List C3} (h : Cv (a ++ b)) : Cv (b ++ a) := by
  rw [Cv.app] at h ⊢
  obtain ⟨h1, h2, h3, h4⟩ := h
  refine ⟨h2, h1, fun p hp => (h4 p hp).imp fun {q s} h => ?_, fun s hs => (h3 s hs).imp fun {p q} h => ?_⟩
  · rw [← dt_cyc]; exact h
  · rw [dt_cyc]; exact h
theorem Cv.get {cs : List C3} (h : Cv cs) : ∀ {i j k : Nat} {p q r : C3}, i < j → j < k → cs[i]? = some p → cs[j]? = some q → cs[k]? = some r → 0 < dt p q r := by
  induction cs with
  | nil => intro i j k p q r _ _ hp; simp at hp
  | cons c cs ih =>
    intro i j k p q r h1 h2 hp hq hr
    obtain ⟨j', rfl⟩ : ∃ j', j = j' + 1 := ⟨j - 1, by omega⟩
    obtain ⟨k', rfl⟩ : ∃ k', k = k' + 1 := ⟨k - 1, by omega⟩
    rw [List.getElem?_cons_succ] at hq hr
    cases i with
    | zero =>
      rw [List.getElem?_cons_zero, Option.some.injEq] at hp
      subst hp
      obtain ⟨lq, eq⟩ := List.getElem?_eq_some_iff.mp hq
      obtain ⟨lr, er⟩ := List.getElem?_eq_some_iff.mp hr
      have := (List.pairwise_iff_getElem.mp h.1) j' k' lq lr (by omega)
      rw [eq, er] at this
      exact this
    | succ i' =>
      rw [List.getElem?_cons_succ] at hp
      exact ih h.2 (by omega) (by omega) hp hq hr
/-- behind a line there is one arc: never behind, not behind, behind, not behind -/
theorem Cv.arc {cs : List C3} (h : Cv cs) (l : C3) {i j k m : Nat} {p q r s : C3} (h1 : i < j) (h2 : j < k) (h3 : k < m) (hp : cs[i]? = some p) (hq : cs[j]? = some q) (hr : cs[k]? = some r) (hs : cs[m]? = some s) :
    (htC l p < 0 ∧ 0 ≤ htC l q ∧ htC l r < 0 ∧ 0 ≤ htC l s → False) ∧ (0 ≤ htC l p ∧ htC l q < 0 ∧ 0 ≤ htC l r ∧ htC l s < 0 → False) := by
  have e := dt_four l p q r s
  have a := h.get h2 h3 hq hr hs
  have b := h.get h1 (by omega) hp hq hs
  have c := h.get (by omega) h3 hp hr hs
  have d := h.get h1 h2 hp hq hr
  constructor
  · rintro ⟨x1, x2, x3, x4⟩
    have y1 := Int.mul_neg_of_pos_of_neg a x1
    have y2 := Int.mul_neg_of_pos_of_neg b x3
    have y3 := Int.mul_nonneg (Int.le_of_lt c) x2
    have y4 := Int.mul_nonneg (Int.le_of_lt d) x4
    omega
  · rintro ⟨x1, x2, x3, x4⟩
    have y1 := Int.mul_nonneg (Int.le_of_lt a) x1
    have y2 := Int.mul_nonneg (Int.le_of_lt b) x3
    have y3 := Int.mul_neg_of_pos_of_neg c x2
    have y4 := Int.mul_neg_of_pos_of_neg d x4
    omega
/-! ### a cut, read round -/
theorem mem_tw {α : Type} {p : α → Bool} {x : α} : ∀ {l : List α}, x ∈ l.takeWhile p → p x = true
  | [], h => by simp at h
  | y :: l, h => by
    by_cases e : p y = true
    · rw [List.takeWhile_cons_of_pos e] at h
      rcases List.mem_cons.mp h with h | h
      · subst h; exact e
      · exact mem_tw h
    · rw [List.takeWhile_cons_of_neg e] at h
      simp at h
theorem arc_split {α : Type} (f : α → Bool) (v : Bool) : ∀ (xs : List α), (∀ (i j k m : Nat) (p q r s : α), i < j → j < k → k < m → xs[i]? = some p → xs[j]? = some q → xs[k]? = some r → xs[m]? = some s → f p = v → f q = (!v) → f r = v → f s = (!v) → False) →
    (∃ x t, xs = x :: t ∧ f x = v) → ∃ a b c, xs = a ++ b ++ c ∧ (∀ x ∈ a, f x = v) ∧ (∀ x ∈ b, f x = (!v)) ∧ (∀ x ∈ c, f x = v) := by
  intro xs hn ⟨x0, t0, e0, f0⟩
  have e1 := List.takeWhile_append_dropWhile (p := fun x => f x == v) (l := xs)
  have e2 := List.takeWhile_append_dropWhile (p := fun x => f x == !v) (l := xs.dropWhile fun x => f x == v)
  generalize ha : xs.takeWhile (fun x => f x == v) = a at *
  generalize hd : xs.dropWhile (fun x => f x == v) = d at *
  generalize hb : d.takeWhile (fun x => f x == !v) = b at *
  generalize hc : d.dropWhile (fun x => f x == !v) = c at *
  have fa : ∀ x ∈ a, f x = v := fun x hx => by
    rw [← ha] at hx
    simpa using mem_tw hx
  have fb : ∀ x ∈ b, f x = (!v) := fun x hx => by
    rw [← hb] at hx
    simpa using mem_tw hx
  refine ⟨a, b, c, by rw [List.append_assoc, e2, e1], fa, fb, fun y hy => ?_⟩
  by_cases hv : f y = v
  · exact hv
  exfalso
  have hy' : f y = (!v) := by cases hf : f y <;> cases v <;> simp_all
  match c, hc, hy with
  | z :: c', hc, hy =>
    have fz : f z = v := by
      have := List.head_dropWhile_not (p := fun x => f x == !v) (l := d) (by rw [hc]; simp)
      simp only [hc, List.head_cons] at this
      cases hf : f z <;> cases v <;> simp_all
    have hyc : y ∈ c' := by
      rcases List.mem_cons.mp hy with e | e
      · subst e; exact absurd fz hv
      · exact e
    obtain ⟨n, hn', en⟩ := List.mem_iff_getElem.mp hyc
    have ane : a ≠ [] := fun e => by
      rw [e] at ha
      rw [e0] at ha
      simp [f0] at ha
    match a, ane with
    | x :: a', _ =>
      have bne : b ≠ [] := fun e => by
        rw [e, List.nil_append] at e2
        have h1 := List.head_dropWhile_not (p := fun x => f x == v) (l := xs) (by rw [hd, ← e2]; simp)
        simp only [hd] at h1
        subst e2
        simp [fz] at h1
      match b, bne with
      | w :: b', _ =>
        have ex : xs = (x :: a') ++ ((w :: b') ++ (z :: c')) := by rw [e2, e1]
        refine hn 0 (a'.length + 1) (a'.length + 1 + (b'.length + 1)) (a'.length + 1 + (b'.length + 1) + (n + 1)) x w z y (by omega) (by omega) (by omega) ?_ ?_ ?_ ?_ (fa x (by simp)) (fb w (by simp)) fz hy'
        · rw [ex]; rfl
        · rw [ex, List.getElem?_append_right (by simp)]; simp
        · rw [ex, List.getElem?_append_right (by simp), List.getElem?_append_right (by simp)]; simp
        · rw [ex, List.getElem?_append_right (by simp; omega), List.getElem?_append_right (by simp; omega)]
          simp only [List.length_cons]
          rw [show a'.length + 1 + (b'.length + 1) + (n + 1) - (a'.length + 1) - (b'.length + 1) = n + 1 by omega, List.getElem?_cons_succ, List.getElem?_eq_getElem hn', en]
/-- along a way of corners, each with its edge -/
def cutW (l : C3) (num : Int) : List (C3 × Int) → List (C3 × Int)
  | [] => []
  | [_] => []
  | r :: s :: t => cutP num r.1 r.2 (htC l r.1) s.1 (htC l s.1) ++ cutW l num (s :: t)
theorem cutW_app (l : C3) (num : Int) (x : C3 × Int) (r : List (C3 × Int)) : ∀ a : List (C3 × Int), cutW l num (a ++ x :: r) = cutW l num (a ++ [x]) ++ cutW l num (x :: r)
  | [] => by simp [cutW]
  | [y] => by
    cases r <;> simp [cutW]
  | y :: z :: a => by
    have := cutW_app l num x r (z :: a)
    simp only [List.cons_append] at this ⊢
    simp only [cutW]
    rw [this, List.append_assoc]
/-- all round -/
def cutY (l : C3) (num : Int) : List (C3 × Int) → List (C3 × Int)
  | [] => []
  | x :: r => cutW l num (x :: r ++ [x])
theorem cutY_rot (l : C3) (num : Int) : ∀ a b : List (C3 × Int), ∃ u v, cutY l num (a ++ b) = u ++ v ∧ cutY l num (b ++ a) = v ++ u
  | [], b => ⟨[], cutY l num b, by simp, by simp⟩
  | x :: a, [] => ⟨cutY l num (x :: a), [], by simp, by simp⟩
  | x :: a, y :: b => by
    refine ⟨cutW l num (x :: a ++ [y]), cutW l num (y :: b ++ [x]), ?_, ?_⟩
    · show cutW l num (x :: (a ++ y :: b) ++ [x]) = _
      have := cutW_app l num y (b ++ [x]) (x :: a)
      simpa using this
    · show cutW l num (y :: (b ++ x :: a) ++ [y]) = _
      have := cutW_app l num x (a ++ [y]) (y :: b)
      simpa using this
theorem cutW_snoc (l : C3) (num : Int) (a : List (C3 × Int)) (x y : C3 × Int) : cutW l num (a ++ [x] ++ [y]) = cutW l num (a ++ [x]) ++ cutP num x.1 x.2 (htC l x.1) y.1 (htC l y.1) := by
  rw [List.append_assoc, List.singleton_append, cutW_app]
  simp [cutW]
theorem cutR_W (cs : List C3) (es : List Int) (l : C3) (num : Int) (hl : cs.length = es.length) : ∀ j, j + 1 ≤ cs.length → cutR cs es l num j = cutW l num ((cs.zip es).take (j + 1))
  | 0, h => by
    match cs, es, hl, h with
    | c :: cs, e :: es, hl, h => simp [cutR, cutW]
  | j + 1, h => by
    have ih := cutR_W cs es l num hl j (by omega)
    have hz : (cs.zip es).length = cs.length := by rw [List.length_zip]; omega
    have e1 : (cs.zip es)[j]? = some (gC cs j, gE es j) := by
      rw [List.getElem?_zip_eq_some]; exact ⟨get_gC (by omega), get_gE (by omega)⟩
    have e2 : (cs.zip es)[j + 1]? = some (gC cs (j + 1), gE es (j + 1)) := by
      rw [List.getElem?_zip_eq_some]; exact ⟨get_gC (by omega), get_gE (by omega)⟩
    rw [List.take_succ, e2, List.take_succ, e1]
    show cutR cs es l num j ++ cutI cs es l num j = cutW l num (List.take j (cs.zip es) ++ [(gC cs j, gE es j)] ++ [(gC cs (j + 1), gE es (j + 1))])
    rw [cutW_snoc, ih, List.take_succ, e1]
    show _ = _ ++ cutP num (gC cs j) (gE es j) (htC l (gC cs j)) (gC cs (j + 1)) (htC l (gC cs (j + 1)))
    unfold cutI
    rw [Nat.mod_eq_of_lt (by omega)]
    rfl
theorem cutR_Y {cs : List C3} {es : List Int} (l : C3) (num : Int) (hl : cs.length = es.length) (h1 : 1 ≤ cs.length) : cutR cs es l num cs.length = cutY l num (cs.zip es) := by
  obtain ⟨n, hn⟩ : ∃ n, cs.length = n + 1 := ⟨cs.length - 1, by omega⟩
  have hz : (cs.zip es).length = cs.length := by rw [List.length_zip]; omega
  have e1 : (cs.zip es)[n]? = some (gC cs n, gE es n) := by
    rw [List.getElem?_zip_eq_some]; exact ⟨get_gC (by omega), get_gE (by omega)⟩
  have e0 : (cs.zip es)[0]? = some (gC cs 0, gE es 0) := by
    rw [List.getElem?_zip_eq_some]; exact ⟨get_gC (by omega), get_gE (by omega)⟩
  rw [hn]
  show cutR cs es l num n ++ cutI cs es l num n = _
  rw [cutR_W cs es l num hl n (by omega)]
  have ei : cutI cs es l num n = cutP num (gC cs n) (gE es n) (htC l (gC cs n)) (gC cs 0) (htC l (gC cs 0)) := by
    unfold cutI
    rw [hn, Nat.mod_self]
  rw [ei, List.take_succ, e1]
  have es' := cutW_snoc l num (List.take n (cs.zip es)) (gC cs n, gE es n) (gC cs 0, gE es 0)
  show cutW l num (List.take n (cs.zip es) ++ [(gC cs n, gE es n)]) ++ _ = _
  rw [← es']
  have ek : List.take n (cs.zip es) ++ [(gC cs n, gE es n)] = cs.zip es := by
    have := List.take_succ (l := cs.zip es) (i := n)
    rw [e1] at this
    rw [show ([(gC cs n, gE es n)] : List (C3 × Int)) = (some (gC cs n, gE es n)).toList from rfl, ← this]
    exact List.take_of_length_le (by omega)
  rw [ek]
  match hm : cs.zip es with
  | [] => rw [hm] at hz; simp at hz; omega
  | x :: r =>
    rw [hm] at e0
    simp only [List.getElem?_cons_zero, Option.some.injEq] at e0
    rw [← e0]
    rfl
/-! ### what a cut comes to: the corners behind, and two more -/
theorem cutP_bb {num e h t : Int} {c d : C3} (h1 : h < 0) (h2 : t ≤ 0) : cutP num c e h d t = [(c, e)] := by
  unfold cutP
  rw [if_pos (.inl h1), if_neg (fun z => by omega), if_neg (fun z => by omega)]; rfl
theorem cutP_bo {num e h t : Int} {c d : C3} (h1 : h < 0) (h2 : 0 < t) : cutP num c e h d t = [(c, e), (cxC c d h t, num)] := by
  unfold cutP
  rw [if_pos (.inl h1), if_pos ⟨h1, h2⟩]; rfl
theorem cutP_zo {num e h t : Int} {c d : C3} (h1 : h = 0) (h2 : 0 ≤ t) : cutP num c e h d t = [(c, num)] := by
  unfold cutP
  rw [if_neg (fun z => by omega), if_pos h1, if_neg (fun z => by omega), if_neg (fun z => by omega)]; rfl
theorem cutP_zb {num e h t : Int} {c d : C3} (h1 : h = 0) (h2 : t < 0) : cutP num c e h d t = [(c, e)] := by
  unfold cutP
  rw [if_pos (.inr ⟨h1, h2⟩), if_neg (fun z => by omega), if_neg (fun z => by omega)]; rfl
theorem cutP_oo {num e h t : Int} {c d : C3} (h1 : 0 < h) (h2 : 0 ≤ t) : cutP num c e h d t = [] := by
  unfold cutP
  rw [if_neg (fun z => by omega), if_neg (fun z => by omega), if_neg (fun z => by omega), if_neg (fun z => by omega)]; rfl
theorem cutP_ob {num e h t : Int} {c d : C3} (h1 : 0 < h) (h2 : t < 0) : cutP num c e h d t = [(cxC c d h t, e)] := by
  unfold cutP
  rw [if_neg (fun z => by omega), if_neg (fun z => by omega), if_neg (fun z => by omega), if_pos ⟨h1, h2⟩]; rfl
theorem cutW_beh (l : C3) (num : Int) (x : C3 × Int) : ∀ A : List (C3 × Int), (∀ r ∈ A, htC l r.1 < 0) → htC l x.1 < 0 → cutW l num (A ++ [x]) = A
  | [], _, _ => rfl
  | [a], h, hx => by
    simp only [List.cons_append, List.nil_append, cutW]
    rw [cutP_bb (h a (by simp)) (by omega)]
    rfl
  | a :: b :: A, h, hx => by
    have ih := cutW_beh l num x (b :: A) (fun r hr => h r (by simp [hr])) hx
    simp only [List.cons_append, cutW] at ih ⊢
    rw [cutP_bb (h a (by simp)) (by have := h b (by simp); omega), ih]
    rfl
theorem cutW_bey (l : C3) (num : Int) (x : C3 × Int) : ∀ B : List (C3 × Int), (∀ r ∈ B, 0 < htC l r.1) → 0 ≤ htC l x.1 → cutW l num (B ++ [x]) = []
  | [], _, _ => rfl
  | [a], h, hx => by
    simp only [List.cons_append, List.nil_append, cutW]
    rw [cutP_oo (h a (by simp)) hx]
    rfl
  | a :: b :: A, h, hx => by
    have ih := cutW_bey l num x (b :: A) (fun r hr => h r (by simp [hr])) hx
    simp only [List.cons_append, cutW] at ih ⊢
    rw [cutP_oo (h a (by simp)) (by have := h b (by simp); omega), ih]
    rfl
/-- the point where the way leaves, and where it comes back -/
def leave (l : C3) (a b : C3) : C3 := if 0 < htC l b then cxC a b (htC l a) (htC l b) else b
def comes (l : C3) (b a : C3) : C3 := if 0 < htC l b then cxC b a (htC l b) (htC l a) else b
/-- one corner beyond -/
theorem cutY_one (l : C3) (num : Int) (A : List (C3 × Int)) (a1 ak b : C3 × Int) (hA : ∀ r ∈ A, htC l r.1 < 0) (h1 : A.head? = some a1) (h2 : A.getLast? = some ak) (hb : 0 < htC l b.1) :
    cutY l num (A ++ [b]) = A ++ [(leave l ak.1 b.1, num), (comes l b.1 a1.1, b.2)] := by
  match A, h1 with
  | x :: A', h1 =>
    simp only [List.head?_cons, Option.some.injEq] at h1
    subst h1
    obtain ⟨A'', eA⟩ : ∃ A'', x :: A' = A'' ++ [ak] := by
      exact List.getLast?_eq_some_iff.mp h2
    show cutW l num (x :: (A' ++ [b]) ++ [x]) = _
    rw [show x :: (A' ++ [b]) ++ [x] = (x :: A') ++ b :: [x] by simp, cutW_app, eA]
    have hk : htC l ak.1 < 0 := hA ak (by rw [eA]; simp)
    have hx : htC l x.1 < 0 := hA x (by simp)
    rw [cutW_snoc, cutW_beh l num ak A'' (fun r hr => hA r (by rw [eA]; simp [hr])) hk, cutP_bo hk hb]
    simp only [cutW]
    rw [cutP_ob hb hx]
    unfold leave comes
    rw [if_pos hb, if_pos hb]
    simp
/-- more corners not behind -/
theorem cutY_more (l : C3) (num : Int) (A B : List (C3 × Int)) (a1 ak b bm : C3 × Int) (hA : ∀ r ∈ A, htC l r.1 < 0) (h1 : A.head? = some a1) (h2 : A.getLast? = some ak) (hb : 0 ≤ htC l b.1) (hm : 0 ≤ htC l bm.1) (hB : ∀ r ∈ B, 0 < htC l r.1) :
    cutY l num (A ++ (b :: B ++ [bm])) = A ++ [(leave l ak.1 b.1, num), (comes l bm.1 a1.1, bm.2)] := by
  match A, h1 with
  | x :: A', h1 =>
    simp only [List.head?_cons, Option.some.injEq] at h1
    subst h1
    obtain ⟨A'', eA⟩ : ∃ A'', x :: A' = A'' ++ [ak] := by
      exact List.getLast?_eq_some_iff.mp h2
    have hk : htC l ak.1 < 0 := hA ak (by rw [eA]; simp)
    have hx : htC l x.1 < 0 := hA x (by simp)
    show cutW l num (x :: (A' ++ (b :: B ++ [bm])) ++ [x]) = _
    rw [show x :: (A' ++ (b :: B ++ [bm])) ++ [x] = (x :: A') ++ b :: (B ++ [bm] ++ [x]) by simp, cutW_app, eA, cutW_snoc, cutW_beh l num ak A'' (fun r hr => hA r (by rw [eA]; simp [hr])) hk]
    rw [show b :: (B ++ [bm] ++ [x]) = (b :: B) ++ bm :: [x] by simp, cutW_app]
    have e2 : cutW l num (bm :: [x]) = [(comes l bm.1 x.1, bm.2)] := by
      simp only [cutW]
      unfold comes
      by_cases c : 0 < htC l bm.1
      · rw [cutP_ob c hx, if_pos c]; rfl
      · rw [cutP_zb (by omega) hx, if_neg c]; rfl
    rw [e2]
    unfold leave
    by_cases c : 0 < htC l b.1
    · rw [cutP_bo hk c, if_pos c, cutW_bey l num bm (b :: B) (fun r hr => by
        rcases List.mem_cons.mp hr with e | e
        · subst e; exact c
        · exact hB r e) hm]
      simp
    · rw [cutP_bb hk (by omega), if_neg c]
      have e3 : cutW l num (b :: B ++ [bm]) = [(b.1, num)] := by
        match B, hB with
        | [], _ =>
          simp only [List.cons_append, List.nil_append, cutW]
          rw [cutP_zo (by omega) hm]; rfl
        | y :: B', hB =>
          have ih := cutW_bey l num bm (y :: B') hB hm
          simp only [List.cons_append, cutW] at ih ⊢
          rw [cutP_zo (by omega) (by have := hB y (by simp); omega), ih]; rfl
      rw [e3]
      simp
/-! ### points between two others -/
def Mx (x c d : C3) (α β g : Int) : Prop := 0 < g ∧ 0 ≤ α ∧ 0 ≤ β ∧ g * x.1 = α * c.1 + β * d.1 ∧ g * x.2.1 = α * c.2.1 + β * d.2.1 ∧ g * x.2.2 = α * c.2.2 + β * d.2.2
theorem Mx.dt {x c d : C3} {α β g : Int} (h : Mx x c d α β g) (p q : C3) : g * dt p q x = α * dt p q c + β * dt p q d := by
  obtain ⟨_, _, _, e1, e2, e3⟩ := h
  have r : g * G.dt p q x = (p.1 * q.2.1 - p.2.1 * q.1) * (g * x.2.2) - (p.1 * q.2.2 - p.2.2 * q.1) * (g * x.2.1) + (p.2.1 * q.2.2 - p.2.2 * q.2.1) * (g * x.1) := by unfold G.dt twI; grind
  rw [r, e1, e2, e3]
  unfold G.dt twI
  grind
theorem Mx.ht {x c d : C3} {α β g : Int} (h : Mx x c d α β g) (l : C3) : g * htC l x = α * htC l c + β * htC l d := by
  obtain ⟨_, _, _, e1, e2, e3⟩ := h
  have r : g * htC l x = l.1 * (g * x.1) + l.2.1 * (g * x.2.1) - l.2.2 * (g * x.2.2) := by unfold htC htI; grind
  rw [r, e1, e2, e3]
  unfold htC htI
  grind
theorem ab_nn (x : Int) : 0 ≤ ab x := by unfold ab; split <;> omega
theorem ab_pos {x : Int} (h : x ≠ 0) : 0 < ab x := by unfold ab; split <;> omega
theorem by3_pos {x y w : Int} (h : 0 < w) : 0 < by3 x y w := by
  have := g3_pos (x := x) (y := y) (w := w) (by omega)
  unfold by3
  rw [if_neg (by omega)]
  omega
theorem cx_wpos {c d : C3} {h t : Int} (h1 : 0 < c.2.2) (h2 : 0 < d.2.2) (h3 : t ≠ 0) : 0 < c.2.2 * ab t + d.2.2 * ab h := by
  have p := Int.mul_pos h1 (ab_pos h3)
  have q := Int.mul_nonneg (Int.le_of_lt h2) (ab_nn h)
  omega
theorem cx_mx {c d : C3} {h t : Int} (h1 : 0 < c.2.2) (h2 : 0 < d.2.2) (h3 : t ≠ 0) : ∃ g, Mx (cxC c d h t) c d (ab t) (ab h) g := by
  have w := cx_wpos (h := h) h1 h2 h3
  refine ⟨by3 (c.1 * ab t + d.1 * ab h) (c.2.1 * ab t + d.2.1 * ab h) (c.2.2 * ab t + d.2.2 * ab h), by3_pos w, ab_nn t, ab_nn h, ?_, ?_, ?_⟩
  · unfold cxC nr3
    simp only
    rw [Int.mul_ediv_cancel' (by3_dx _ _ _)]; grind
  · unfold cxC nr3
    simp only
    rw [Int.mul_ediv_cancel' (by3_dy _ _ _)]; grind
  · unfold cxC nr3
    simp only
    rw [Int.mul_ediv_cancel' (by3_dw _ _ _)]; grind
theorem mx_end (c d : C3) : Mx d c d 0 1 1 := ⟨by decide, by decide, by decide, by omega, by omega, by omega⟩
theorem mx_begin (c d : C3) : Mx c c d 1 0 1 := ⟨by decide, by decide, by decide, by omega, by omega, by omega⟩
theorem leave_mx {l a b : C3} (wa : 0 < a.2.2) (wb : 0 < b.2.2) (ha : htC l a < 0) (hb : 0 ≤ htC l b) : ∃ α β g, Mx (leave l a b) a b α β g ∧ 0 < β ∧ (0 < htC l b → 0 < α) ∧ (htC l b = 0 → α = 0) ∧ htC l (leave l a b) = 0 := by
  unfold leave
  by_cases c : 0 < htC l b
  · rw [if_pos c]
    obtain ⟨g, m⟩ := cx_mx (h := htC l a) wa wb (show htC l b ≠ 0 by omega)
    refine ⟨_, _, g, m, ab_pos (by omega), fun _ => ab_pos (by omega), fun e => by omega, ?_⟩
    have e := m.ht l
    have z : ab (htC l b) * htC l a + ab (htC l a) * htC l b = 0 := by
      unfold ab
      rw [if_neg (by omega), if_pos ha]
      grind
    rw [z] at e
    exact (Int.mul_eq_zero.mp e).resolve_left (by have := m.1; omega)
  · rw [if_neg c]
    exact ⟨0, 1, 1, mx_end a b, by decide, fun e => absurd e c, fun _ => rfl, by omega⟩
theorem comes_mx {l a b : C3} (wa : 0 < a.2.2) (wb : 0 < b.2.2) (ha : htC l a < 0) (hb : 0 ≤ htC l b) : ∃ α β g, Mx (comes l b a) b a α β g ∧ 0 < α ∧ (0 < htC l b → 0 < β) ∧ (htC l b = 0 → β = 0) ∧ htC l (comes l b a) = 0 := by
  unfold comes
  by_cases c : 0 < htC l b
  · rw [if_pos c]
    obtain ⟨g, m⟩ := cx_mx (h := htC l b) wb wa (show htC l a ≠ 0 by omega)
    refine ⟨_, _, g, m, ab_pos (by omega), fun _ => ab_pos (by omega), fun e => by omega, ?_⟩
    have e := m.ht l
    have z : ab (htC l a) * htC l b + ab (htC l b) * htC l a = 0 := by
      unfold ab
      rw [if_neg (show ¬ htC l b < 0 by omega), if_pos ha]
      grind
    rw [z] at e
    exact (Int.mul_eq_zero.mp e).resolve_left (by have := m.1; omega)
  · rw [if_neg c]
    exact ⟨1, 0, 1, mx_begin b a, by decide, fun e => absurd e c, fun _ => rfl, by omega⟩
/-! ### what is left is convex -/
theorem pos_of_mul {g x : Int} (hg : 0 < g) (h : 0 < g * x) : 0 < x := by
  rcases Int.lt_trichotomy x 0 with c | c | c
  · have := Int.mul_neg_of_pos_of_neg hg c; omega
  · subst c; simp at h
  · exact c
theorem Cv.last {A : List C3} {k : C3} (h : Cv (A ++ [k])) : (A ++ [k]).Pairwise fun p q => 0 ≤ dt p q k := by
  rw [Cv.app] at h
  rw [List.pairwise_append]
  refine ⟨(h.2.2.2 k (by simp)).imp fun h => Int.le_of_lt h, by simp, fun p hp q hq => ?_⟩
  simp at hq
  subst hq
  rw [dt_self2]
  exact Int.le_refl _
theorem Cv.head {A : List C3} {k : C3} (h : Cv (k :: A)) : (k :: A).Pairwise fun p q => 0 ≤ dt p q k := by
  rw [List.pairwise_cons]
  refine ⟨fun q hq => by rw [dt_self3]; exact Int.le_refl _, h.1.imp fun {p q} h => ?_⟩
  rw [dt_cyc]
  exact Int.le_of_lt h
theorem Cv.cut {A Bs : List C3} {a1 ak b1 bm p1 p2 : C3} {α1 β1 g1 α2 β2 g2 : Int} (h : Cv (A ++ Bs)) (h1 : ∃ A', A = a1 :: A') (h2 : ∃ A'', A = A'' ++ [ak]) (hb1 : b1 ∈ Bs) (hbm : bm ∈ Bs)
    (m1 : Mx p1 ak b1 α1 β1 g1) (m2 : Mx p2 bm a1 α2 β2 g2) (pb : 0 < β1) (pa : 0 < α2)
    (hd : (∀ a ∈ A, 0 < dt a b1 bm) ∨ (b1 = bm ∧ 0 < α1 ∧ 0 < β2 ∧ 2 ≤ A.length)) : Cv (A ++ [p1, p2]) := by
  rw [Cv.app] at h ⊢
  obtain ⟨cA, cB, f1, f2⟩ := h
  obtain ⟨A', e1⟩ := h1
  obtain ⟨A'', e2⟩ := h2
  have la : A.Pairwise fun p q => 0 ≤ dt p q ak := by rw [e2] at cA ⊢; exact Cv.last cA
  have ha : A.Pairwise fun p q => 0 ≤ dt p q a1 := by rw [e1] at cA ⊢; exact Cv.head cA
  refine ⟨cA, ⟨by simp, by simp, trivial⟩, fun a hmem => ?_, fun s hs => ?_⟩
  · rw [List.pairwise_cons]
    refine ⟨fun q hq => ?_, by simp⟩
    simp at hq
    rw [hq]
    have x1 := m2.dt a p1
    have x2 := m1.dt bm a
    have x3 := m1.dt a1 a
    rw [dt_cyc2 a p1 bm] at x2
    rw [dt_cyc2 a p1 a1] at x3
    rw [dt_cyc2 a ak bm, dt_cyc2 a b1 bm] at x2
    have n1 : 0 ≤ dt a ak bm := by
      rw [e2] at hmem
      have := f2 bm hbm
      rw [e2, List.pairwise_append] at this
      rcases List.mem_append.mp hmem with hm | hm
      · exact Int.le_of_lt (this.2.2 a hm ak (by simp))
      · simp at hm; subst hm; rw [dt_self]; exact Int.le_refl _
    have n3 : 0 ≤ dt a1 a ak := by
      have := la
      rw [e1, List.pairwise_cons] at this
      rw [e1] at hmem
      rcases List.mem_cons.mp hmem with hm | hm
      · subst hm; rw [dt_self]; exact Int.le_refl _
      · exact this.1 a hm
    have n4 : a = a1 ∨ 0 < dt a1 a b1 := by
      have := f2 b1 hb1
      rw [e1, List.pairwise_cons] at this
      rw [e1] at hmem
      rcases List.mem_cons.mp hmem with hm | hm
      · exact .inl hm
      · exact .inr (this.1 a hm)
    have n4' : 0 ≤ dt a1 a b1 := by
      rcases n4 with e | e
      · subst e; rw [dt_self]; exact Int.le_refl _
      · omega
    have tot : g1 * g2 * dt a p1 p2 = α2 * α1 * dt a ak bm + α2 * β1 * dt a b1 bm + β2 * α1 * dt a1 a ak + β2 * β1 * dt a1 a b1 := by
      have : g1 * g2 * dt a p1 p2 = g1 * (g2 * dt a p1 p2) := by grind
      rw [this, x1, Int.mul_add]
      have y1 : g1 * (α2 * dt a p1 bm) = α2 * (g1 * dt a p1 bm) := by grind
      have y2 : g1 * (β2 * dt a p1 a1) = β2 * (g1 * dt a p1 a1) := by grind
      rw [y1, y2, x2, x3]
      grind
    refine pos_of_mul (Int.mul_pos m1.1 m2.1) ?_
    rw [tot]
    have z1 := Int.mul_nonneg (Int.mul_nonneg m2.2.1 m1.2.1) n1
    have z3 := Int.mul_nonneg (Int.mul_nonneg m2.2.2.1 m1.2.1) n3
    have z4 := Int.mul_nonneg (Int.mul_nonneg m2.2.2.1 m1.2.2.1) n4'
    rcases hd with hd | ⟨eb, q1, q2, q3⟩
    · have z2 := Int.mul_pos (Int.mul_pos pa pb) (hd a hmem)
      omega
    · subst eb
      rw [dt_self2, Int.mul_zero]
      rcases n4 with e | e
      · subst e
        have : 0 < dt a ak b1 := by
          have := f2 b1 hb1
          rw [e1, List.pairwise_cons] at this
          refine this.1 ak ?_
          have hk : ak ∈ a :: A' := by rw [← e1, e2]; simp
          rcases List.mem_cons.mp hk with hk | hk
          · exfalso
            subst hk
            match A', e1 with
            | [], e1 => rw [e1] at q3; simp at q3
            | y :: A3, e1 =>
              rw [e1] at e2
              match A'', e2 with
              | [], e2 => simp at e2
              | w :: A4, e2 =>
                simp only [List.cons_append, List.cons.injEq] at e2
                have hin : ak ∈ y :: A3 := by rw [e2.2]; simp
                have := this.1 ak hin
                rw [dt_self] at this
                omega
          · exact hk
        have z1' := Int.mul_pos (Int.mul_pos pa q1) this
        omega
      · have z4' := Int.mul_pos (Int.mul_pos q2 pb) e
        omega
  · simp at hs
    rcases hs with e | e
    · subst e
      refine (la.and (f2 b1 hb1)).imp fun {p q} h => pos_of_mul m1.1 ?_
      rw [m1.dt p q]
      have := Int.mul_nonneg m1.2.1 h.1
      have := Int.mul_pos pb h.2
      omega
    · subst e
      refine (ha.and (f2 bm hbm)).imp fun {p q} h => pos_of_mul m2.1 ?_
      rw [m2.dt p q]
      have := Int.mul_nonneg m2.2.2.1 h.1
      have := Int.mul_pos pa h.2
      omega
theorem arc_rot {rs : List (C3 × Int)} (hc : Cv (rs.map (·.1))) (l : C3) (hn : ∃ r ∈ rs, htC l r.1 < 0) (hp : ∃ r ∈ rs, 0 ≤ htC l r.1) :
    ∃ x y A Bs, rs = x ++ y ∧ y ++ x = A ++ Bs ∧ (∀ r ∈ A, htC l r.1 < 0) ∧ (∀ r ∈ Bs, 0 ≤ htC l r.1) ∧ A ≠ [] ∧ Bs ≠ [] := by
  obtain ⟨rn, mn, fn⟩ := hn
  obtain ⟨rp, mp, fp⟩ := hp
  have key : ∀ v : Bool, ∀ (i j k m : Nat) (p q r s : C3 × Int), i < j → j < k → k < m → rs[i]? = some p → rs[j]? = some q → rs[k]? = some r → rs[m]? = some s →
      decide (htC l p.1 < 0) = v → decide (htC l q.1 < 0) = (!v) → decide (htC l r.1 < 0) = v → decide (htC l s.1 < 0) = (!v) → False := by
    intro v i j k m p q r s h1 h2 h3 hp hq hr hs fp fq fr fs
    have a := Cv.arc hc l h1 h2 h3 (get_map (f := fun r : C3 × Int => r.1) hp) (get_map (f := fun r : C3 × Int => r.1) hq) (get_map (f := fun r : C3 × Int => r.1) hr) (get_map (f := fun r : C3 × Int => r.1) hs)
    cases v with
    | true =>
      simp at fp fq fr fs
      exact a.1 ⟨fp, fq, fr, fs⟩
    | false =>
      simp at fp fq fr fs
      exact a.2 ⟨fp, fq, fr, fs⟩
  match rs, mn with
  | r0 :: t, mn =>
    cases hv : decide (htC l r0.1 < 0) with
    | true =>
      obtain ⟨a, b, c, e, ha, hb, hc'⟩ := arc_split (fun r : C3 × Int => decide (htC l r.1 < 0)) true (r0 :: t) (key true) ⟨r0, t, rfl, hv⟩
      replace ha : ∀ r ∈ a, htC l r.1 < 0 := fun r hr => of_decide_eq_true (ha r hr)
      replace hc' : ∀ r ∈ c, htC l r.1 < 0 := fun r hr => of_decide_eq_true (hc' r hr)
      replace hb : ∀ r ∈ b, 0 ≤ htC l r.1 := fun r hr => by have := of_decide_eq_false (hb r hr); omega
      refine ⟨a ++ b, c, c ++ a, b, e, by simp, fun r hr => ?_, fun r hr => hb _ hr, fun e' => ?_, fun e' => ?_⟩
      · rcases List.mem_append.mp hr with h | h
        · exact hc' _ h
        · exact ha _ h
      · have : rn ∈ a ++ b ++ c := by rw [← e]; exact mn
        simp at e'
        rw [e'.1, e'.2] at this
        simp at this
        have := hb _ this
        omega
      · have : rp ∈ a ++ b ++ c := by rw [← e]; exact mp
        subst e'
        simp at this
        rcases this with h | h
        · have := ha _ h; omega
        · have := hc' _ h; omega
    | false =>
      obtain ⟨a, b, c, e, ha, hb, hc'⟩ := arc_split (fun r : C3 × Int => decide (htC l r.1 < 0)) false (r0 :: t) (key false) ⟨r0, t, rfl, hv⟩
      replace ha : ∀ r ∈ a, 0 ≤ htC l r.1 := fun r hr => by have := of_decide_eq_false (ha r hr); omega
      replace hc' : ∀ r ∈ c, 0 ≤ htC l r.1 := fun r hr => by have := of_decide_eq_false (hc' r hr); omega
      replace hb : ∀ r ∈ b, htC l r.1 < 0 := fun r hr => of_decide_eq_true (hb r hr)
      refine ⟨a, b ++ c, b, c ++ a, by rw [e]; simp, by simp, fun r hr => hb _ hr, fun r hr => ?_, fun e' => ?_, fun e' => ?_⟩
      · rcases List.mem_append.mp hr with h | h
        · exact hc' _ h
        · exact ha _ h
      · have : rn ∈ a ++ b ++ c := by rw [← e]; exact mn
        subst e'
        simp at this
        rcases this with h | h
        · have := ha _ h; omega
        · have := hc' _ h; omega
      · have : rp ∈ a ++ b ++ c := by rw [← e]; exact mp
        simp at e'
        rw [e'.1, e'.2] at this
        simp at this
        have := hb _ this
        omega
theorem inner_pos {cs : List C3} (h : Cv cs) (l : C3) {i j k m : Nat} {p q r s : C3} (h1 : i < j) (h2 : j < k) (h3 : k < m) (hp : cs[i]? = some p) (hq : cs[j]? = some q) (hr : cs[k]? = some r) (hs : cs[m]? = some s)
    (x1 : htC l p < 0) (x2 : 0 ≤ htC l q) (x3 : 0 ≤ htC l r) (x4 : 0 ≤ htC l s) : 0 < htC l r := by
  have e := dt_four l p q r s
  have a := Cv.get h h2 h3 hq hr hs
  have c := Cv.get h (by omega) h3 hp hr hs
  have d := Cv.get h h1 h2 hp hq hr
  by_cases z : htC l r = 0
  · rw [z, Int.mul_zero] at e
    have y1 := Int.mul_neg_of_pos_of_neg a x1
    have y3 := Int.mul_nonneg (Int.le_of_lt c) x2
    have y4 := Int.mul_nonneg (Int.le_of_lt d) x4
    omega
  · omega
theorem inner_all {A : List (C3 × Int)} {b bm : C3 × Int} {B : List (C3 × Int)} (h : Cv ((A ++ (b :: B ++ [bm])).map (·.1))) (l : C3) (hA : ∀ r ∈ A, htC l r.1 < 0) (hB : ∀ r ∈ b :: B ++ [bm], 0 ≤ htC l r.1) (ha : A ≠ []) : ∀ r ∈ B, 0 < htC l r.1 := by
  intro r hr
  obtain ⟨n, hn, en⟩ := List.mem_iff_getElem.mp hr
  match A, ha with
  | a :: A', _ =>
    have g : ∀ (i : Nat) (x : C3 × Int), ((a :: A') ++ (b :: B ++ [bm]))[i]? = some x → (((a :: A') ++ (b :: B ++ [bm])).map (fun r : C3 × Int => r.1))[i]? = some x.1 := fun i x hx => get_map hx
    refine inner_pos h l (i := 0) (j := A'.length + 1) (k := A'.length + 1 + (n + 1)) (m := A'.length + 1 + (B.length + 1)) (by omega) (by omega) (by omega) (g _ a ?_) (g _ b ?_) (g _ r ?_) (g _ bm ?_) (hA a (by simp)) (hB b (by simp)) (hB r (by simp [hr])) (hB bm (by simp))
    · rfl
    · rw [List.getElem?_append_right (by simp)]; simp
    · rw [List.getElem?_append_right (by simp)]
      simp only [List.length_cons]
      rw [show A'.length + 1 + (n + 1) - (A'.length + 1) = n + 1 by omega, List.cons_append, List.getElem?_cons_succ, List.getElem?_append_left hn, List.getElem?_eq_getElem hn, en]
    · rw [List.getElem?_append_right (by simp)]
      simp only [List.length_cons]
      rw [show A'.length + 1 + (B.length + 1) - (A'.length + 1) = B.length + 1 by omega, List.cons_append, List.getElem?_cons_succ, List.getElem?_append_right (by omega)]
      simp
/-- all of a cut: where it is begun anew, what it comes to, and that it is convex -/
theorem cut_form {rs : List (C3 × Int)} (hc : Cv (rs.map (·.1))) (hw : ∀ r ∈ rs, 0 < r.1.2.2) (h3 : 3 ≤ rs.length) (l : C3) (num : Int) (hn : ∃ r ∈ rs, htC l r.1 < 0) (hp : ∃ r ∈ rs, 0 < htC l r.1) :
    ∃ x y A Bs a1 ak b1 bm, rs = x ++ y ∧ y ++ x = A ++ Bs ∧ A.head? = some a1 ∧ A.getLast? = some ak ∧ Bs.head? = some b1 ∧ Bs.getLast? = some bm ∧ (∀ r ∈ A, htC l r.1 < 0) ∧ (∀ r ∈ Bs, 0 ≤ htC l r.1) ∧
      cutY l num (A ++ Bs) = A ++ [(leave l ak.1 b1.1, num), (comes l bm.1 a1.1, bm.2)] ∧ Cv (A.map (·.1) ++ [leave l ak.1 b1.1, comes l bm.1 a1.1]) := by
  obtain ⟨x, y, A, Bs, e1, e2, hA, hB, nA, nB⟩ := arc_rot hc l hn (hp.imp fun r h => ⟨h.1, Int.le_of_lt h.2⟩)
  have hc2 : Cv ((A ++ Bs).map (·.1)) := by
    rw [← e2, List.map_append]
    rw [e1, List.map_append] at hc
    exact Cv.rot hc
  have hmem : ∀ r, r ∈ A ++ Bs → r ∈ rs := fun r hr => by
    rw [← e2] at hr
    rw [e1]
    rcases List.mem_append.mp hr with h | h
    · exact List.mem_append.mpr (.inr h)
    · exact List.mem_append.mpr (.inl h)
  have hlen : A.length + Bs.length = rs.length := by
    have := congrArg List.length e2
    rw [List.length_append, List.length_append] at this
    rw [e1, List.length_append]
    omega
  have hpB : ∃ r ∈ Bs, 0 < htC l r.1 := by
    obtain ⟨r, hr, h⟩ := hp
    have : r ∈ A ++ Bs := by
      rw [← e2]
      rw [e1] at hr
      rcases List.mem_append.mp hr with h | h
      · exact List.mem_append.mpr (.inr h)
      · exact List.mem_append.mpr (.inl h)
    rcases List.mem_append.mp this with h' | h'
    · have := hA r h'; omega
    · exact ⟨r, h', h⟩
  obtain ⟨a1, A', eA⟩ : ∃ a1 A', A = a1 :: A' := by
    match A, nA with
    | a :: t, _ => exact ⟨a, t, rfl⟩
  obtain ⟨ak, eK⟩ : ∃ ak, A.getLast? = some ak := ⟨_, List.getLast?_eq_some_getLast nA⟩
  obtain ⟨A'', eK'⟩ := List.getLast?_eq_some_iff.mp eK
  obtain ⟨b1, B', eB⟩ : ∃ b1 B', Bs = b1 :: B' := by
    match Bs, nB with
    | a :: t, _ => exact ⟨a, t, rfl⟩
  obtain ⟨bm, eM⟩ : ∃ bm, Bs.getLast? = some bm := ⟨_, List.getLast?_eq_some_getLast nB⟩
  have hh : A.head? = some a1 := by rw [eA]; rfl
  have hbh : Bs.head? = some b1 := by rw [eB]; rfl
  have ib1 : b1 ∈ Bs := by rw [eB]; simp
  have ibm : bm ∈ Bs := List.mem_of_getLast? eM
  have ia1 : a1 ∈ A := by rw [eA]; simp
  have iak : ak ∈ A := List.mem_of_getLast? eK
  have wA : ∀ r ∈ A, 0 < r.1.2.2 := fun r hr => hw r (hmem r (List.mem_append.mpr (.inl hr)))
  have wB : ∀ r ∈ Bs, 0 < r.1.2.2 := fun r hr => hw r (hmem r (List.mem_append.mpr (.inr hr)))
  obtain ⟨α1, β1, g1, m1, pb, q1, _, _⟩ := leave_mx (wA ak iak) (wB b1 ib1) (hA ak iak) (hB b1 ib1)
  obtain ⟨α2, β2, g2, m2, pa, q2, _, _⟩ := comes_mx (wA a1 ia1) (wB bm ibm) (hA a1 ia1) (hB bm ibm)
  have hc3 := hc2
  rw [List.map_append] at hc3
  have cv : (∀ a ∈ A.map (·.1), 0 < dt a b1.1 bm.1) ∨ (b1.1 = bm.1 ∧ 0 < α1 ∧ 0 < β2 ∧ 2 ≤ (A.map (·.1)).length) → Cv (A.map (·.1) ++ [leave l ak.1 b1.1, comes l bm.1 a1.1]) := fun hd =>
    Cv.cut hc3 ⟨A'.map (·.1), by rw [eA]; rfl⟩ ⟨A''.map (·.1), by rw [eK']; simp⟩ (List.mem_map_of_mem (f := fun r : C3 × Int => r.1) ib1) (List.mem_map_of_mem (f := fun r : C3 × Int => r.1) ibm) m1 m2 pb pa hd
  refine ⟨x, y, A, Bs, a1, ak, b1, bm, e1, e2, hh, eK, hbh, eM, hA, hB, ?_⟩
  match hB' : B', eB with
  | [], eB =>
    have eb : bm = b1 := by rw [eB] at eM; simpa using eM.symm
    have hb : 0 < htC l b1.1 := by
      obtain ⟨r, hr, h⟩ := hpB
      rw [eB] at hr
      simp at hr
      rw [← hr]; exact h
    subst eb
    refine ⟨by rw [eB]; exact cutY_one l num A a1 ak bm hA hh eK hb, cv (.inr ⟨rfl, q1 hb, q2 hb, ?_⟩)⟩
    rw [List.length_map]
    rw [eB] at hlen
    simp at hlen
    omega
  | z :: B2, eB =>
    obtain ⟨B3, e3⟩ : ∃ B3, z :: B2 = B3 ++ [bm] := by
      rw [eB, List.getLast?_cons_cons] at eM
      exact List.getLast?_eq_some_iff.mp eM
    rw [e3] at eB
    have hc4 := hc2
    rw [eB] at hc4
    have inn := inner_all (b := b1) (bm := bm) (B := B3) hc4 l hA (by rw [eB] at hB; exact hB) nA
    refine ⟨by rw [eB]; exact cutY_more l num A B3 a1 ak b1 bm hA hh eK (hB b1 ib1) (hB bm ibm) inn, cv (.inl fun a ha => ?_)⟩
    rw [Cv.app] at hc3
    have := hc3.2.2.1 a ha
    rw [eB] at this
    simp only [List.map_cons, List.map_append, List.map_nil, List.pairwise_cons] at this
    exact this.1 bm.1 (by simp)

/-! ### the order of points -/
theorem mul_lt_of {a b k : Int} (hk : 0 < k) : k * a < k * b ↔ a < b := by
  constructor
  · intro h
    rcases Int.lt_or_le a b with c | c
    · exact c
    · have := Int.mul_le_mul_of_nonneg_left c (Int.le_of_lt hk); omega
  · exact fun h => Int.mul_lt_mul_of_pos_left h hk
theorem mul_eq_of {a b k : Int} (hk : 0 < k) : k * a = k * b ↔ a = b := ⟨fun h => Int.eq_of_mul_eq_mul_left (by omega) h, fun h => by rw [h]⟩
theorem ah_iff (c d : C3) : ahC c d = true ↔ c.1 * d.2.2 < d.1 * c.2.2 ∨ c.1 * d.2.2 = d.1 * c.2.2 ∧ c.2.1 * d.2.2 < d.2.1 * c.2.2 := by
  unfold ahC ahB
  by_cases h : c.1 * d.2.2 = d.1 * c.2.2
  · rw [if_pos h, decide_eq_true_eq]
    constructor
    · exact fun k => .inr ⟨h, k⟩
    · rintro (k | k)
      · omega
      · exact k.2
  · rw [if_neg h, decide_eq_true_eq]
    constructor
    · exact .inl
    · rintro (k | k)
      · exact k
      · exact absurd k.1 h
theorem ah_irr (c : C3) : ahC c c = false := by
  rw [← Bool.not_eq_true, ah_iff]
  omega
theorem lt_tr {a b c u v w : Int} (hu : 0 < u) (hv : 0 < v) (hw : 0 < w) (h1 : a * v ≤ b * u) (h2 : b * w ≤ c * v) : a * w ≤ c * u ∧ (a * w = c * u → a * v = b * u ∧ b * w = c * v) := by
  have e1 : a * w * v ≤ b * u * w := by
    have := Int.mul_le_mul_of_nonneg_right h1 (Int.le_of_lt hw)
    have : a * w * v = a * v * w := by grind
    omega
  have e2 : b * u * w ≤ c * u * v := by
    have := Int.mul_le_mul_of_nonneg_right h2 (Int.le_of_lt hu)
    have : b * u * w = b * w * u := by grind
    have : c * u * v = c * v * u := by grind
    omega
  have r : a * w ≤ c * u := by
    rcases Int.lt_or_le (c * u) (a * w) with k | k
    · have := Int.mul_lt_mul_of_pos_right k hv; omega
    · exact k
  refine ⟨r, fun e => ?_⟩
  rw [e] at e1
  have e3 : b * u * w = c * u * v := by omega
  have e4 : a * w * v = b * u * w := by rw [e]; omega
  constructor
  · have : a * v * w = b * u * w := by rw [← e4]; grind
    exact Int.eq_of_mul_eq_mul_right (by omega) this
  · have : b * w * u = c * v * u := by
      have x1 : b * w * u = b * u * w := by grind
      have x2 : c * v * u = c * u * v := by grind
      rw [x1, x2, e3]
    exact Int.eq_of_mul_eq_mul_right (by omega) this
theorem ah_tr {c d e : C3} (wc : 0 < c.2.2) (wd : 0 < d.2.2) (we : 0 < e.2.2) (h1 : ahC c d = true) (h2 : ahC d e = true) : ahC c e = true := by
  rw [ah_iff] at *
  have a := lt_tr (a := c.1) (b := d.1) (c := e.1) wc wd we (by omega) (by omega)
  by_cases k : c.1 * e.2.2 = e.1 * c.2.2
  · obtain ⟨k1, k2⟩ := a.2 k
    have x1 : c.2.1 * d.2.2 < d.2.1 * c.2.2 := by omega
    have x2 : d.2.1 * e.2.2 < e.2.1 * d.2.2 := by omega
    have b := lt_tr (a := c.2.1) (b := d.2.1) (c := e.2.1) wc wd we (by omega) (by omega)
    refine .inr ⟨k, ?_⟩
    by_cases k3 : c.2.1 * e.2.2 = e.2.1 * c.2.2
    · have := b.2 k3; omega
    · omega
  · exact .inl (by omega)
theorem ah_tot {c d : C3} (h : ahC c d = false) (h2 : ahC d c = false) : c.1 * d.2.2 = d.1 * c.2.2 ∧ c.2.1 * d.2.2 = d.2.1 * c.2.2 := by
  rw [← Bool.not_eq_true, ah_iff] at h h2
  omega
/-- the first of all others -/
theorem bgF_least {rs : List (C3 × Int)} (hw : ∀ r ∈ rs, 0 < r.1.2.2) (hd : ∀ i j, i < rs.length → j < rs.length → i ≠ j → ahC (gR rs i) (gR rs j) = true ∨ ahC (gR rs j) (gR rs i) = true) :
    ∀ k, k < rs.length → ∀ i, i ≤ k → i ≠ bgF rs k → ahC (gR rs (bgF rs k)) (gR rs i) = true
  | 0, _, i, hi, hne => by
    have : bgF rs 0 = 0 := rfl
    omega
  | k + 1, hk, i, hi, hne => by
    have ih := bgF_least hw hd k (by omega)
    have hb := bgF_le rs k
    have w : ∀ j, j < rs.length → 0 < (gR rs j).2.2 := fun j hj => by
      rw [(get_gR hj).2]; exact hw _ (List.getElem_mem hj)
    have e : bgF rs (k + 1) = if ahC (gR rs (k + 1)) (gR rs (bgF rs k)) = true then k + 1 else bgF rs k := rfl
    by_cases c : ahC (gR rs (k + 1)) (gR rs (bgF rs k)) = true
    · rw [e, if_pos c] at hne ⊢
      by_cases c2 : i = bgF rs k
      · subst c2; exact c
      · exact ah_tr (w _ hk) (w _ (by omega)) (w _ (by omega)) c (ih i (by omega) c2)
    · rw [e, if_neg c] at hne ⊢
      by_cases c2 : i = k + 1
      · subst c2
        rcases hd (k + 1) (bgF rs k) hk (by omega) (by omega) with h | h
        · exact absurd h c
        · exact h
      · exact ih i (by omega) hne
def Lead (L : List (C3 × Int)) : Prop := ∀ r t, L = r :: t → ∀ s ∈ t, ahC r.1 s.1 = true
theorem lead_rot {x y : List (C3 × Int)} (hw : ∀ r ∈ x ++ y, 0 < r.1.2.2) (h1 : Lead (x ++ y)) (h2 : Lead (y ++ x)) : x ++ y = y ++ x := by
  match x, y with
  | [], y => simp
  | x, [] => simp
  | a :: x, b :: y =>
    exfalso
    have e1 := h1 a (x ++ b :: y) rfl b (by simp)
    have e2 := h2 b (y ++ a :: x) rfl a (by simp)
    have := ah_tr (hw a (by simp)) (hw b (by simp)) (hw a (by simp)) e1 e2
    rw [ah_irr] at this
    cases this
theorem rotR_lead {rs : List (C3 × Int)} (hw : ∀ r ∈ rs, 0 < r.1.2.2) (hd : ∀ i j, i < rs.length → j < rs.length → i ≠ j → ahC (gR rs i) (gR rs j) = true ∨ ahC (gR rs j) (gR rs i) = true) (h1 : 1 ≤ rs.length) : Lead (rotR rs) := by
  have hb := bgF_le rs (rs.length - 1)
  have hl := bgF_least hw hd (rs.length - 1) (by omega)
  unfold rotR
  generalize bgF rs (rs.length - 1) = n at *
  have hn : n < rs.length := by omega
  rw [List.drop_eq_getElem_cons hn]
  intro r t e s hs
  simp only [List.cons_append, List.cons.injEq] at e
  obtain ⟨rfl, rfl⟩ := e
  have key : ∀ i, i < rs.length → i ≠ n → ahC (rs[n]).1 (gR rs i) = true := fun i hi hne => by
    have := hl i (by omega) hne
    rw [(get_gR hn).2] at this
    exact this
  rcases List.mem_append.mp hs with h | h
  · obtain ⟨k, hk, ek⟩ := List.mem_iff_getElem.mp h
    rw [List.length_drop] at hk
    rw [List.getElem_drop] at ek
    have := key (n + 1 + k) (by omega) (by omega)
    rw [(get_gR (show n + 1 + k < rs.length by omega)).2, ek] at this
    exact this
  · obtain ⟨k, hk, ek⟩ := List.mem_iff_getElem.mp h
    rw [List.length_take] at hk
    rw [List.getElem_take] at ek
    have := key k (by omega) (by omega)
    rw [(get_gR (show k < rs.length by omega)).2, ek] at this
    exact this

/-! ### rings of corners -/
def Ch {α : Type} (P : α → α → Prop) : List α → Prop
  | [] => True
  | [_] => True
  | a :: b :: t => P a b ∧ Ch P (b :: t)
def Ri {α : Type} (P : α → α → Prop) : List α → Prop
  | [] => True
  | x :: r => Ch P (x :: r ++ [x])
theorem Ch.app {α : Type} {P : α → α → Prop} (x : α) (r : List α) : ∀ a : List α, Ch P (a ++ x :: r) ↔ Ch P (a ++ [x]) ∧ Ch P (x :: r)
  | [] => by simp [Ch]
  | [y] => by simp [Ch]
  | y :: z :: a => by
    have := Ch.app (P := P) x r (z :: a)
    simp only [List.cons_append, Ch] at this ⊢
    rw [this, and_assoc]
theorem Ch.snoc {α : Type} {P : α → α → Prop} {L : List α} {k x : α} (h : L.getLast? = some k) : Ch P (L ++ [x]) ↔ Ch P L ∧ P k x := by
  obtain ⟨L', rfl⟩ := List.getLast?_eq_some_iff.mp h
  rw [List.append_assoc, List.singleton_append, Ch.app]
  simp [Ch]
theorem Ri.form {α : Type} {P : α → α → Prop} {A B : List α} {a1 ak b1 bm : α} (h1 : A.head? = some a1) (h2 : A.getLast? = some ak) (h3 : B.head? = some b1) (h4 : B.getLast? = some bm) :
    Ri P (A ++ B) ↔ Ch P A ∧ P ak b1 ∧ Ch P B ∧ P bm a1 := by
  match A, B, h1, h3 with
  | x :: A', y :: B', h1, h3 =>
    simp only [List.head?_cons, Option.some.injEq] at h1 h3
    subst h1
    subst h3
    show Ch P (x :: (A' ++ y :: B') ++ [x]) ↔ _
    have e : x :: (A' ++ y :: B') ++ [x] = (x :: A') ++ y :: (B' ++ [x]) := by simp
    rw [e, Ch.app, Ch.snoc h2, ← List.cons_append, Ch.snoc h4, and_assoc]
theorem Ri.rot {α : Type} {P : α → α → Prop} : ∀ {a b : List α}, Ri P (a ++ b) → Ri P (b ++ a)
  | [], b, h => by simpa using h
  | x :: a, [], h => by simpa using h
  | x :: a, y :: b, h => by
    have eA : (x :: a).getLast? = some ((x :: a).getLast (by simp)) := List.getLast?_eq_some_getLast _
    have eB : (y :: b).getLast? = some ((y :: b).getLast (by simp)) := List.getLast?_eq_some_getLast _
    rw [Ri.form rfl eA rfl eB] at h
    rw [Ri.form rfl eB rfl eA]
    exact ⟨h.2.2.1, h.2.2.2, h.1, h.2.1⟩
theorem Ch.imp {α : Type} {P Q : α → α → Prop} : ∀ {L : List α}, (∀ a ∈ L, ∀ b ∈ L, P a b → Q a b) → Ch P L → Ch Q L
  | [], _, _ => trivial
  | [_], _, _ => trivial
  | a :: b :: t, h, k => ⟨h a (by simp) b (by simp) k.1, Ch.imp (L := b :: t) (fun a ha b hb => h a (List.mem_cons_of_mem _ ha) b (List.mem_cons_of_mem _ hb)) k.2⟩
theorem Ri.imp {α : Type} {P Q : α → α → Prop} {L : List α} (h : ∀ a ∈ L, ∀ b ∈ L, P a b → Q a b) (k : Ri P L) : Ri Q L := by
  match L, k with
  | [], _ => trivial
  | x :: r, k =>
    refine Ch.imp (fun a ha b hb => h a ?_ b ?_) k
    · simp at ha ⊢; rcases ha with h | h | h <;> simp [h]
    · simp at hb ⊢; rcases hb with h | h | h <;> simp [h]
theorem Ch.get {α : Type} {P : α → α → Prop} : ∀ {L : List α}, Ch P L → ∀ {i : Nat} {a b : α}, L[i]? = some a → L[i + 1]? = some b → P a b
  | [], _, i, a, b, h1, h2 => by simp at h1
  | [_], _, i, a, b, h1, h2 => by simp at h2
  | x :: y :: t, h, 0, a, b, h1, h2 => by simp at h1 h2; subst h1; subst h2; exact h.1
  | x :: y :: t, h, i + 1, a, b, h1, h2 => Ch.get (L := y :: t) h.2 (i := i) (by simpa using h1) (by simpa using h2)
theorem Ch.of {α : Type} {P : α → α → Prop} : ∀ {L : List α}, (∀ (i : Nat) (a b : α), L[i]? = some a → L[i + 1]? = some b → P a b) → Ch P L
  | [], _ => trivial
  | [_], _ => trivial
  | x :: y :: t, h => ⟨h 0 x y rfl rfl, Ch.of (L := y :: t) fun i a b h1 h2 => h (i + 1) a b (by simpa using h1) (by simpa using h2)⟩
/-! one list is another one begun elsewhere -/
def Rot {α : Type} (L K : List α) : Prop := ∃ x y, L = x ++ y ∧ K = y ++ x
theorem Rot.symm {α : Type} {L K : List α} : Rot L K → Rot K L := fun ⟨x, y, h1, h2⟩ => ⟨y, x, h2, h1⟩
theorem Rot.trans {α : Type} {L K M : List α} : Rot L K → Rot K M → Rot L M := by
  rintro ⟨x, y, rfl, rfl⟩ ⟨u, v, e, rfl⟩
  rcases List.append_eq_append_iff.mp e with ⟨s, rfl, rfl⟩ | ⟨s, rfl, rfl⟩
  · exact ⟨s, v ++ y, by simp, by simp⟩
  · exact ⟨x ++ u, s, by simp, by simp⟩
theorem Rot.mem {α : Type} {L K : List α} (h : Rot L K) {a : α} (ha : a ∈ L) : a ∈ K := by
  obtain ⟨x, y, rfl, rfl⟩ := h
  rcases List.mem_append.mp ha with h | h <;> simp [h]
theorem Rot.len {α : Type} {L K : List α} (h : Rot L K) : L.length = K.length := by
  obtain ⟨x, y, rfl, rfl⟩ := h
  simp only [List.length_append]; omega
theorem Rot.ri {α : Type} {P : α → α → Prop} {L K : List α} (h : Rot L K) (k : Ri P L) : Ri P K := by
  obtain ⟨x, y, rfl, rfl⟩ := h
  exact Ri.rot k
theorem Rot.map {α β : Type} (f : α → β) {L K : List α} (h : Rot L K) : Rot (L.map f) (K.map f) := by
  obtain ⟨x, y, rfl, rfl⟩ := h
  exact ⟨x.map f, y.map f, by simp, by simp⟩
theorem Rot.cv {L K : List C3} (h : Rot L K) (k : Cv L) : Cv K := by
  obtain ⟨x, y, rfl, rfl⟩ := h
  exact Cv.rot k
theorem rotR_rot (rs : List (C3 × Int)) : Rot rs (rotR rs) := ⟨rs.take (bgF rs (rs.length - 1)), rs.drop (bgF rs (rs.length - 1)), by rw [List.take_append_drop], rfl⟩
/-- corners of a ring are unlike -/
theorem dt_same {c d : C3} (e : C3) (wc : 0 < c.2.2) (h1 : c.1 * d.2.2 = d.1 * c.2.2) (h2 : c.2.1 * d.2.2 = d.2.1 * c.2.2) : dt c d e = 0 := by
  have : c.2.2 * dt c d e = 0 := by unfold dt twI; grind
  rcases Int.mul_eq_zero.mp this with h | h
  · omega
  · exact h
theorem Cv.unlike {cs : List C3} (h : Cv cs) (h3 : 3 ≤ cs.length) (hw : ∀ c ∈ cs, 0 < c.2.2) {i j : Nat} {c d : C3} (hi : cs[i]? = some c) (hj : cs[j]? = some d) (hne : i ≠ j) (e1 : c.1 * d.2.2 = d.1 * c.2.2) (e2 : c.2.1 * d.2.2 = d.2.1 * c.2.2) : False := by
  obtain ⟨k, hk3, hki, hkj⟩ : ∃ k, k < 3 ∧ k ≠ i ∧ k ≠ j := by
    by_cases a : 0 ≠ i ∧ 0 ≠ j
    · exact ⟨0, by omega, a.1, a.2⟩
    · by_cases b : 1 ≠ i ∧ 1 ≠ j
      · exact ⟨1, by omega, b.1, b.2⟩
      · exact ⟨2, by omega, by omega, by omega⟩
  obtain ⟨e, he, me⟩ := get_lt (xs := cs) (i := k) (by omega)
  have wc := hw c (List.mem_of_getElem? hi)
  have wd := hw d (List.mem_of_getElem? hj)
  have z1 := dt_same e wc e1 e2
  have z2 := dt_same e wd e1.symm e2.symm
  rcases Nat.lt_or_gt_of_ne hne with o | o
  · rcases Nat.lt_or_gt_of_ne hki with p | p
    · have := h.get p o he hi hj; have c2 := dt_cyc e c d; have c3 := dt_cyc c d e; omega
    · rcases Nat.lt_or_gt_of_ne hkj with q | q
      · have := h.get p q hi he hj; have s := dt_swap c d e; have c2 := dt_cyc e c d; have c3 := dt_cyc d e c; have c4 := dt_cyc e d c; have c5 := dt_cyc c e d; have c6 := dt_cyc d c e; omega
      · have := h.get o q hi hj he; omega
  · rcases Nat.lt_or_gt_of_ne hkj with p | p
    · have := h.get p o he hj hi; have c2 := dt_cyc e d c; have c3 := dt_cyc d c e; omega
    · rcases Nat.lt_or_gt_of_ne hki with q | q
      · have := h.get p q hj he hi; have s := dt_swap c d e; have c2 := dt_cyc e c d; have c3 := dt_cyc d e c; have c4 := dt_cyc e d c; have c5 := dt_cyc c e d; have c6 := dt_cyc d c e; omega
      · have := h.get o q hj hi he; omega
theorem Cv.ordered {rs : List (C3 × Int)} (h : Cv (rs.map (·.1))) (h3 : 3 ≤ rs.length) (hw : ∀ r ∈ rs, 0 < r.1.2.2) : ∀ i j, i < rs.length → j < rs.length → i ≠ j → ahC (gR rs i) (gR rs j) = true ∨ ahC (gR rs j) (gR rs i) = true := by
  intro i j hi hj hne
  by_cases a : ahC (gR rs i) (gR rs j) = true
  · exact .inl a
  · by_cases b : ahC (gR rs j) (gR rs i) = true
    · exact .inr b
    · exfalso
      have t := ah_tot (by simpa using a) (by simpa using b)
      have g : ∀ k, k < rs.length → (rs.map (·.1))[k]? = some (gR rs k) := fun k hk => by rw [(get_gR hk).2]; exact get_map (get_gR hk).1
      exact Cv.unlike h (by simpa using h3) (fun c hc => by obtain ⟨r, hr, rfl⟩ := List.mem_map.mp hc; exact hw r hr) (g i hi) (g j hj) hne t.1 t.2
theorem rotR_same {L K : List (C3 × Int)} (h : Rot L K) (hc : Cv (L.map (·.1))) (h3 : 3 ≤ L.length) (hw : ∀ r ∈ L, 0 < r.1.2.2) : rotR L = rotR K := by
  have hw2 : ∀ r ∈ K, 0 < r.1.2.2 := fun r hr => hw r (h.symm.mem hr)
  have l1 := rotR_lead hw (Cv.ordered hc h3 hw) (by omega)
  have l2 := rotR_lead hw2 (Cv.ordered ((h.map (·.1)).cv hc) (by rw [← h.len]; exact h3) hw2) (by rw [← h.len]; omega)
  have r : Rot (rotR L) (rotR K) := (rotR_rot L).symm.trans (h.trans (rotR_rot K))
  have hw3 : ∀ r ∈ rotR L, 0 < r.1.2.2 := fun r hr => hw r ((rotR_rot L).symm.mem hr)
  obtain ⟨x, y, e1, e2⟩ := r
  rw [e1] at l1 hw3 ⊢
  rw [e2] at l2 ⊢
  exact lead_rot hw3 l1 l2
/-! ### what a field keeps: nm tells which lines a number may call -/
def Eg (nm : Int → C3 → Prop) (r s : C3 × Int) : Prop := ∃ L, nm r.2 L ∧ htC L r.1 = 0 ∧ htC L s.1 = 0
structure Fk (nm : Int → C3 → Prop) (rs : List (C3 × Int)) : Prop where
  three : 3 ≤ rs.length
  cv : Cv (rs.map (·.1))
  w : ∀ r ∈ rs, 0 < r.1.2.2
  low : ∀ r ∈ rs, g3 r.1.1 r.1.2.1 r.1.2.2 = 1
  ln : Ri (Eg nm) rs
theorem Fk.rot {nm : Int → C3 → Prop} {rs qs : List (C3 × Int)} (h : Fk nm rs) (k : Rot rs qs) : Fk nm qs :=
  ⟨by rw [← k.len]; exact h.three, (k.map (·.1)).cv h.cv, fun r hr => h.w r (k.symm.mem hr), fun r hr => h.low r (k.symm.mem hr), k.ri h.ln⟩
theorem Fk.mono {nm nm2 : Int → C3 → Prop} {rs : List (C3 × Int)} (h : Fk nm rs) (k : ∀ e L, nm e L → nm2 e L) : Fk nm2 rs :=
  ⟨h.three, h.cv, h.w, h.low, h.ln.imp fun _ _ _ _ ⟨L, h1, h2⟩ => ⟨L, k _ _ h1, h2⟩⟩
def Low (c : C3) : Prop := 0 < c.2.2 ∧ g3 c.1 c.2.1 c.2.2 = 1
theorem cx_low {c d : C3} {h t : Int} (h1 : 0 < c.2.2) (h2 : 0 < d.2.2) (h3 : t ≠ 0) : Low (cxC c d h t) := by
  have w := cx_wpos (h := h) h1 h2 h3
  exact ⟨by3_w (by omega), by3_gcd (by omega)⟩
theorem leave_low {l a b : C3} (wa : Low a) (wb : Low b) : Low (leave l a b) := by
  unfold leave
  split
  · exact cx_low wa.1 wb.1 (by omega)
  · exact wb
theorem comes_low {l a b : C3} (wa : Low a) (wb : Low b) (ha : htC l a < 0) : Low (comes l b a) := by
  unfold comes
  split
  · exact cx_low wb.1 wa.1 (by omega)
  · exact wb
theorem Mx.on {x c d : C3} {α β g : Int} (h : Mx x c d α β g) {l : C3} (h1 : htC l c = 0) (h2 : htC l d = 0) : htC l x = 0 := by
  have e := h.ht l
  rw [h1, h2] at e
  have := h.1
  rcases Int.mul_eq_zero.mp (show g * htC l x = 0 by omega) with h | h
  · omega
  · exact h
theorem Fk.lows {nm : Int → C3 → Prop} {rs : List (C3 × Int)} (h : Fk nm rs) {r : C3 × Int} (hr : r ∈ rs) : Low r.1 := ⟨h.w r hr, h.low r hr⟩
/-- the form of a cut, and that it is a field -/
theorem Fk.form {nm : Int → C3 → Prop} {rs : List (C3 × Int)} (h : Fk nm rs) {l : C3} {num : Int} (hn : ∃ r ∈ rs, htC l r.1 < 0) (hp : ∃ r ∈ rs, 0 < htC l r.1) :
    ∃ A Bs a1 ak b1 bm, Rot rs (A ++ Bs) ∧ A.head? = some a1 ∧ A.getLast? = some ak ∧ Bs.head? = some b1 ∧ Bs.getLast? = some bm ∧ (∀ r ∈ A, htC l r.1 < 0) ∧ (∀ r ∈ Bs, 0 ≤ htC l r.1) ∧
      Rot (cutY l num rs) (A ++ [(leave l ak.1 b1.1, num), (comes l bm.1 a1.1, bm.2)]) ∧ (nm num l → Fk nm (A ++ [(leave l ak.1 b1.1, num), (comes l bm.1 a1.1, bm.2)])) := by
  obtain ⟨x, y, A, Bs, a1, ak, b1, bm, e1, e2, hh, hk, hb, hm, hA, hB, ec, cv⟩ := cut_form h.cv h.w h.three l num hn hp
  have hr : Rot rs (A ++ Bs) := ⟨x, y, e1, e2.symm⟩
  have hf := h.rot hr
  have ia1 : a1 ∈ A := List.mem_of_head? hh
  have iak : ak ∈ A := List.mem_of_getLast? hk
  have ib1 : b1 ∈ Bs := List.mem_of_head? hb
  have ibm : bm ∈ Bs := List.mem_of_getLast? hm
  have La1 := hf.lows (List.mem_append_left Bs ia1)
  have Lak := hf.lows (List.mem_append_left Bs iak)
  have Lb1 := hf.lows (List.mem_append_right A ib1)
  have Lbm := hf.lows (List.mem_append_right A ibm)
  refine ⟨A, Bs, a1, ak, b1, bm, hr, hh, hk, hb, hm, hA, hB, ?_, fun hl => ?_⟩
  · obtain ⟨u, v, e3, e4⟩ := cutY_rot l num x y
    rw [e2, ec] at e4
    rw [e1]
    exact ⟨u, v, e3, e4⟩
  have L1 := leave_low (l := l) Lak Lb1
  have L2 := comes_low (l := l) La1 Lbm (hA a1 ia1)
  obtain ⟨α1, β1, g1, m1, _, _, _, z1⟩ := leave_mx Lak.1 Lb1.1 (hA ak iak) (hB b1 ib1)
  obtain ⟨α2, β2, g2, m2, _, _, _, z2⟩ := comes_mx La1.1 Lbm.1 (hA a1 ia1) (hB bm ibm)
  have hall : ∀ r ∈ A ++ [(leave l ak.1 b1.1, num), (comes l bm.1 a1.1, bm.2)], Low r.1 := fun r hr => by
    rcases List.mem_append.mp hr with h | h
    · exact hf.lows (List.mem_append_left Bs h)
    · simp only [List.mem_cons, List.not_mem_nil, or_false] at h
      rcases h with rfl | rfl
      · exact L1
      · exact L2
  have lnf := hf.ln
  rw [Ri.form hh hk hb hm] at lnf
  obtain ⟨c1, ⟨K1, n1, y1, y2⟩, _, ⟨K2, n2, y3, y4⟩⟩ := lnf
  refine ⟨?_, by simpa using cv, fun r hr => (hall r hr).1, fun r hr => (hall r hr).2, ?_⟩
  · have : A.length ≠ 0 := by intro e; rw [List.length_eq_zero_iff] at e; rw [e] at hh; simp at hh
    simp only [List.length_append, List.length_cons, List.length_nil]; omega
  · rw [Ri.form hh hk (B := [(leave l ak.1 b1.1, num), (comes l bm.1 a1.1, bm.2)]) rfl rfl]
    exact ⟨c1, ⟨K1, n1, y1, m1.on y1 y2⟩, ⟨⟨l, hl, z1, z2⟩, trivial⟩, ⟨K2, n2, m2.on y3 y4, y4⟩⟩
theorem Fk.cutY {nm : Int → C3 → Prop} {rs : List (C3 × Int)} (h : Fk nm rs) {l : C3} {num : Int} (hl : nm num l) (hn : ∃ r ∈ rs, htC l r.1 < 0) (hp : ∃ r ∈ rs, 0 < htC l r.1) :
    Fk nm (rotR (G.cutY l num rs)) ∧ Lead (rotR (G.cutY l num rs)) ∧ (rotR (G.cutY l num rs)).length ≤ rs.length + 1 := by
  obtain ⟨A, Bs, a1, ak, b1, bm, hr, hh, hk, hb, hm, hA, hB, e, f⟩ := h.form (num := num) hn hp
  have f1 := (f hl).rot e.symm
  refine ⟨f1.rot (rotR_rot _), rotR_lead f1.w (Cv.ordered f1.cv f1.three f1.w) (by have := f1.three; omega), ?_⟩
  rw [← (rotR_rot _).len, e.len, hr.len]
  have : Bs.length ≠ 0 := by intro e; rw [List.length_eq_zero_iff] at e; rw [e] at hb; simp at hb
  simp only [List.length_append, List.length_cons, List.length_nil]; omega
/-! sizes, by the two lines through a corner -/
theorem dvd_low {x y w W : Int} (h : g3 x y w = 1) (h1 : w ∣ x * W) (h2 : w ∣ y * W) : w ∣ W := by
  have a : w ∣ ((Int.gcd (x * W) (y * W) : Nat) : Int) := Int.dvd_coe_gcd h1 h2
  rw [Int.gcd_mul_right] at a
  rw [Int.natCast_mul] at a
  have b := dvd_cop (b := w) (a := (Int.gcd x y : Int)) (by rw [Int.gcd_comm]; exact h) a
  exact Int.dvd_natAbs.mp b
theorem on3 {L e c d : C3} (hL : L.1 ≠ 0 ∨ L.2.1 ≠ 0) (h1 : htC L e = 0) (h2 : htC L c = 0) (h3 : htC L d = 0) : dt e c d = 0 := by
  unfold htC htI at *
  unfold dt twI
  rcases hL with h | h
  · have : L.1 * (e.1 * (c.2.1 * d.2.2 - d.2.1 * c.2.2) - e.2.1 * (c.1 * d.2.2 - d.1 * c.2.2) + e.2.2 * (c.1 * d.2.1 - d.1 * c.2.1)) = 0 := by grind
    rcases Int.mul_eq_zero.mp this with k | k
    · exact absurd k h
    · exact k
  · have : L.2.1 * (e.1 * (c.2.1 * d.2.2 - d.2.1 * c.2.2) - e.2.1 * (c.1 * d.2.2 - d.1 * c.2.2) + e.2.2 * (c.1 * d.2.1 - d.1 * c.2.1)) = 0 := by grind
    rcases Int.mul_eq_zero.mp this with k | k
    · exact absurd k h
    · exact k
/-- lines of numbers of at most M bits, the last one of at most K -/
def Zl (M K : Nat) (L : C3) : Prop := Zb M L.1 ∧ Zb M L.2.1 ∧ Zb K L.2.2 ∧ (L.1 ≠ 0 ∨ L.2.1 ≠ 0)
theorem two_lines {M N : Nat} {L K c d e : C3} (zL : Zl M N L) (zK : Zl M N K) (lc : Low c) (h1 : htC L c = 0) (h2 : htC L d = 0) (h3 : htC K e = 0) (h4 : htC K c = 0) (hd : dt e c d ≠ 0) : Zb (M + N + 1) c.1 ∧ Zb (M + N + 1) c.2.1 ∧ Zb (2 * M + 1) c.2.2 := by
  obtain ⟨l1, l2, l3, nL⟩ := zL
  obtain ⟨k1, k2, k3, nK⟩ := zK
  have hW : L.1 * K.2.1 - L.2.1 * K.1 ≠ 0 := fun z => by
    apply hd
    have w := lc.1
    have q : htC L e = 0 := by
      have e1 : K.1 * htC L e * c.2.2 = 0 := by unfold htC htI at *; grind
      have e2 : K.2.1 * htC L e * c.2.2 = 0 := by unfold htC htI at *; grind
      have f1 := (Int.mul_eq_zero.mp e1).resolve_right (by omega)
      have f2 := (Int.mul_eq_zero.mp e2).resolve_right (by omega)
      rcases nK with k | k
      · exact (Int.mul_eq_zero.mp f1).resolve_left k
      · exact (Int.mul_eq_zero.mp f2).resolve_left k
    exact on3 nL q h1 h2
  have x1 : c.1 * (L.1 * K.2.1 - L.2.1 * K.1) = (L.2.2 * K.2.1 - L.2.1 * K.2.2) * c.2.2 := by unfold htC htI at *; grind
  have y1 : c.2.1 * (L.1 * K.2.1 - L.2.1 * K.1) = (L.1 * K.2.2 - L.2.2 * K.1) * c.2.2 := by unfold htC htI at *; grind
  have zW : Zb (2 * M + 1) (L.1 * K.2.1 - L.2.1 * K.1) := (Zb.subm (l1.mul k2) (l2.mul k1)).mono (by omega)
  have zX : Zb (M + N + 1) (L.2.2 * K.2.1 - L.2.1 * K.2.2) := (Zb.subm ((l3.mul k2).mono (by omega)) (l2.mul k3)).mono (by omega)
  have zY : Zb (M + N + 1) (L.1 * K.2.2 - L.2.2 * K.1) := (Zb.subm (l1.mul k3) ((l3.mul k1).mono (by omega))).mono (by omega)
  generalize L.1 * K.2.1 - L.2.1 * K.1 = W at *
  generalize L.2.2 * K.2.1 - L.2.1 * K.2.2 = X at *
  generalize L.1 * K.2.2 - L.2.2 * K.1 = Y at *
  obtain ⟨t, rfl⟩ := dvd_low lc.2 ⟨X, by rw [x1, Int.mul_comm]⟩ ⟨Y, by rw [y1, Int.mul_comm]⟩
  have w := lc.1
  have ht : t ≠ 0 := fun z => hW (by rw [z, Int.mul_zero])
  have ex : X = c.1 * t := Int.eq_of_mul_eq_mul_right (show c.2.2 ≠ 0 by omega) (by rw [← x1]; grind)
  have ey : Y = c.2.1 * t := Int.eq_of_mul_eq_mul_right (show c.2.2 ≠ 0 by omega) (by rw [← y1]; grind)
  have key : ∀ z : Int, z.natAbs ≤ (z * t).natAbs := fun z => by
    rw [Int.natAbs_mul]; exact Nat.le_mul_of_pos_right _ (by omega)
  subst ex
  subst ey
  exact ⟨zX.le (key _), zY.le (key _), zW.le (key _)⟩
theorem Fk.size {nm : Int → C3 → Prop} {M N : Nat} {rs : List (C3 × Int)} (h : Fk nm rs) (hm : ∀ e L, nm e L → Zl M N L) : ∀ r ∈ rs, Zb (M + N + 1) r.1.1 ∧ Zb (M + N + 1) r.1.2.1 ∧ Zb (2 * M + 1) r.1.2.2 := by
  intro r hr
  obtain ⟨x, y, e⟩ := List.append_of_mem hr
  have k : Rot rs ([r] ++ (y ++ x)) := ⟨x, r :: y, e, by simp⟩
  have f := h.rot k
  have h3 := f.three
  match ht : y ++ x, f, h3 with
  | s :: t, f, h3 =>
    obtain ⟨q, hq⟩ : ∃ q, (s :: t).getLast? = some q := ⟨_, List.getLast?_eq_some_getLast (by simp)⟩
    have ln := f.ln
    rw [Ri.form (A := [r]) (B := s :: t) rfl rfl rfl hq] at ln
    obtain ⟨_, ⟨L, n1, a1, a2⟩, _, ⟨K, n2, a3, a4⟩⟩ := ln
    obtain ⟨t', et⟩ := List.getLast?_eq_some_iff.mp hq
    have cv := f.cv
    match t', et with
    | [], et =>
      rw [et] at h3
      simp at h3
    | u :: t2, et =>
      have eu : u = s := by simp at et; exact et.1.symm
      rw [et, eu] at cv
      have : 0 < dt r.1 s.1 q.1 := by
        simp only [List.cons_append, List.nil_append, List.map_cons, List.map_append, Cv, List.pairwise_cons, List.map_nil] at cv
        exact cv.1.1 _ (by simp)
      exact two_lines (hm _ _ n1) (hm _ _ n2) ⟨f.w r (by simp), f.low r (by simp)⟩ a1 a2 a3 a4 (by rw [dt_cyc2]; omega)
/-! ### edges of a ring, by its rotations -/
theorem Ri.iff {α : Type} {P : α → α → Prop} {L : List α} (h2 : 2 ≤ L.length) : Ri P L ↔ ∀ a b t, Rot L (a :: b :: t) → P a b := by
  constructor
  · intro h a b t r
    exact (r.ri h).1
  · intro h
    match L, h2 with
    | x :: r, h2 =>
      refine Ch.of fun i a b ha hb => ?_
      by_cases c : i + 1 < (x :: r).length
      · have ha' : (x :: r)[i]? = some a := by rw [List.getElem?_append_left (by omega)] at ha; exact ha
        have hb' : (x :: r)[i + 1]? = some b := by rw [List.getElem?_append_left (by omega)] at hb; exact hb
        refine h a b ((x :: r).drop (i + 2) ++ (x :: r).take i) ⟨(x :: r).take i, a :: b :: (x :: r).drop (i + 2), ?_, rfl⟩
        have e1 : (x :: r).drop i = a :: (x :: r).drop (i + 1) := by
          rw [List.drop_eq_getElem_cons (by omega)]
          congr 1
          exact Option.some.inj ((List.getElem?_eq_getElem (by omega)).symm.trans ha')
        have e2 : (x :: r).drop (i + 1) = b :: (x :: r).drop (i + 2) := by
          rw [List.drop_eq_getElem_cons (by omega)]
          congr 1
          exact Option.some.inj ((List.getElem?_eq_getElem (by omega)).symm.trans hb')
        rw [← e2, ← e1, List.take_append_drop]
      · have hi : i + 1 < (x :: r ++ [x]).length := (List.getElem?_eq_some_iff.mp hb).1
        simp only [List.length_append, List.length_cons, List.length_nil] at hi c h2
        have ei : i + 1 = (x :: r).length := by simp only [List.length_cons]; omega
        have eb : b = x := by
          rw [ei, List.getElem?_append_right (Nat.le_refl _)] at hb
          simp at hb
          exact hb.symm
        have ha' : (x :: r)[i]? = some a := by rw [List.getElem?_append_left (by simp only [List.length_cons]; omega)] at ha; exact ha
        have el : (x :: r).getLast? = some a := by rw [List.getLast?_eq_getElem?, ← ei]; exact ha'
        obtain ⟨t, et⟩ := List.getLast?_eq_some_iff.mp el
        match t, et with
        | [], et => simp at et; rw [et.2] at h2; simp at h2
        | y :: t, et =>
          have ey : y = x := by simp at et; exact et.1.symm
          rw [eb]
          rw [ey] at et
          exact h a x t ⟨x :: t, [a], et, rfl⟩
/-! ### the points of a field -/
def InC (cs : List C3) (q : C3) : Prop := Ri (fun c d => 0 ≤ dt c d q) cs
def lf (u c : C3) : Int := u.1 * c.1 + u.2.1 * c.2.1 + u.2.2 * c.2.2
theorem dt_lf (u v c : C3) : dt u v c = lf (u.2.1 * v.2.2 - u.2.2 * v.2.1, u.2.2 * v.1 - u.1 * v.2.2, u.1 * v.2.1 - u.2.1 * v.1) c := by unfold dt twI lf; grind
theorem ht_lf (l c : C3) : htC l c = lf (l.1, l.2.1, -l.2.2) c := by unfold htC htI lf; grind
theorem cramer1 (a b c q : C3) : dt a b c * q.1 = dt b c q * a.1 + dt a q c * b.1 + dt a b q * c.1 := by unfold dt twI; grind
theorem cramer2 (a b c q : C3) : dt a b c * q.2.1 = dt b c q * a.2.1 + dt a q c * b.2.1 + dt a b q * c.2.1 := by unfold dt twI; grind
theorem cramer3 (a b c q : C3) : dt a b c * q.2.2 = dt b c q * a.2.2 + dt a q c * b.2.2 + dt a b q * c.2.2 := by unfold dt twI; grind
theorem cramer (u a b c q : C3) : dt a b c * lf u q = dt b c q * lf u a + dt a q c * lf u b + dt a b q * lf u c := by
  have e : dt a b c * lf u q = u.1 * (dt a b c * q.1) + u.2.1 * (dt a b c * q.2.1) + u.2.2 * (dt a b c * q.2.2) := by unfold lf; grind
  rw [e, cramer1, cramer2, cramer3]
  unfold lf
  generalize dt b c q = x
  generalize dt a q c = y
  generalize dt a b q = z
  grind
theorem dt_swap2 (p q r : C3) : dt p r q = -dt p q r := by unfold dt twI; grind
theorem fan_find (c0 q : C3) : ∀ (r : List C3) (b z : C3), (b :: r).getLast? = some z → 0 ≤ dt c0 b q → Ch (fun c d => 0 ≤ dt c d q) (b :: r) → 0 ≤ dt z c0 q → 1 ≤ r.length →
    ∃ i b1 b2, (b :: r)[i]? = some b1 ∧ (b :: r)[i + 1]? = some b2 ∧ 0 ≤ dt c0 b1 q ∧ dt c0 b2 q ≤ 0 ∧ 0 ≤ dt b1 b2 q
  | [], b, z, _, _, _, _, h => by simp at h
  | c :: r, b, z, hz, h1, h2, h3, _ => by
    by_cases k : dt c0 c q ≤ 0
    · exact ⟨0, b, c, rfl, rfl, h1, k, h2.1⟩
    · match r with
      | [] =>
        simp at hz
        subst hz
        rw [dt_swap] at h3
        omega
      | d :: r =>
        obtain ⟨i, b1, b2, g1, g2, g3⟩ := fan_find c0 q (d :: r) c z (by rw [List.getLast?_cons_cons] at hz; exact hz) (by omega) h2.2 h3 (by simp)
        exact ⟨i + 1, b1, b2, by simpa using g1, by simpa using g2, g3⟩
/-- a point of a ring is amid three of its corners -/
theorem InC.three {cs : List C3} (hc : Cv cs) (h3 : 3 ≤ cs.length) {q : C3} (h : InC cs q) : ∃ a b c, a ∈ cs ∧ b ∈ cs ∧ c ∈ cs ∧ 0 < dt a b c ∧ 0 ≤ dt b c q ∧ 0 ≤ dt a q c ∧ 0 ≤ dt a b q := by
  match cs, h3 with
  | c0 :: b :: r, h3 =>
    obtain ⟨z, hz⟩ : ∃ z, (b :: r).getLast? = some z := ⟨_, List.getLast?_eq_some_getLast (by simp)⟩
    have f := (Ri.form (A := [c0]) (B := b :: r) rfl rfl rfl hz).mp h
    obtain ⟨i, b1, b2, g1, g2, g3, g4, g5⟩ := fan_find c0 q r b z hz f.2.1 f.2.2.1 f.2.2.2 (by simp at h3; omega)
    refine ⟨c0, b1, b2, by simp, List.mem_cons_of_mem _ (List.mem_of_getElem? g1), List.mem_cons_of_mem _ (List.mem_of_getElem? g2), ?_, g5, by rw [dt_swap2]; omega, g3⟩
    exact hc.get (i := 0) (j := i + 1) (k := i + 2) (by omega) (by omega) rfl (by simpa using g1) (by simpa using g2)
theorem InC.nn {cs : List C3} (hc : Cv cs) (h3 : 3 ≤ cs.length) {q : C3} (h : InC cs q) {u : C3} (hu : ∀ c ∈ cs, 0 ≤ lf u c) : 0 ≤ lf u q := by
  obtain ⟨a, b, c, ha, hb, hcc, hD, p1, p2, p3⟩ := InC.three hc h3 h
  have e := cramer u a b c q
  have q1 := Int.mul_nonneg p1 (hu a ha)
  have q2 := Int.mul_nonneg p2 (hu b hb)
  have q3 := Int.mul_nonneg p3 (hu c hcc)
  rcases Int.lt_or_le (lf u q) 0 with k | k
  · have := Int.mul_neg_of_pos_of_neg hD k; omega
  · exact k
theorem InC.ht {cs : List C3} (hc : Cv cs) (h3 : 3 ≤ cs.length) {q : C3} (h : InC cs q) {l : C3} (hu : ∀ c ∈ cs, htC l c ≤ 0) : htC l q ≤ 0 := by
  have e : ∀ c, htC l c = -lf (-l.1, -l.2.1, l.2.2) c := fun c => by unfold htC htI lf; grind
  have := InC.nn hc h3 h (u := (-l.1, -l.2.1, l.2.2)) (fun c hcc => by have := hu c hcc; rw [e] at this; omega)
  rw [e]; omega
theorem InC.dt {cs : List C3} (hc : Cv cs) (h3 : 3 ≤ cs.length) {q : C3} (h : InC cs q) {u v : C3} (hu : ∀ c ∈ cs, 0 ≤ dt u v c) : 0 ≤ G.dt u v q := by
  rw [dt_lf]
  exact InC.nn hc h3 h fun c hcc => by have := hu c hcc; rw [dt_lf] at this; exact this
/-- all corners stand to the left of each edge -/
theorem Cv.edges {cs : List C3} (hc : Cv cs) (h3 : 3 ≤ cs.length) {c : C3} (hcc : c ∈ cs) : InC cs c := by
  refine (Ri.iff (by omega)).mpr fun a b t r => ?_
  have k := r.cv hc
  have m := r.mem hcc
  simp only [List.mem_cons] at m
  rcases m with rfl | rfl | m
  · rw [dt_self3]; exact Int.le_refl _
  · rw [dt_self2]; exact Int.le_refl _
  · have := k.1
    rw [List.pairwise_cons] at this
    exact Int.le_of_lt (this.1 c m)
theorem InC.mix {cs : List C3} {x c d : C3} {α β g : Int} (m : Mx x c d α β g) (h2 : 2 ≤ cs.length) (h1 : InC cs c) (h : InC cs d) : InC cs x := by
  refine (Ri.iff h2).mpr fun a b t r => ?_
  have e1 := (Ri.iff h2).mp h1 a b t r
  have e2 := (Ri.iff h2).mp h a b t r
  have e := m.dt a b
  obtain ⟨g0, a0, b0, _⟩ := m
  have q1 := Int.mul_nonneg a0 e1
  have q2 := Int.mul_nonneg b0 e2
  rcases Int.lt_or_le (G.dt a b x) 0 with k | k
  · have := Int.mul_neg_of_pos_of_neg g0 k; omega
  · exact k
theorem nn_of_mul {g x : Int} (hg : 0 < g) (h : 0 ≤ g * x) : 0 ≤ x := by
  rcases Int.lt_or_le x 0 with k | k
  · have := Int.mul_neg_of_pos_of_neg hg k; omega
  · exact k
theorem Ri.map {α β : Type} {f : α → β} {P : β → β → Prop} {L : List α} : Ri P (L.map f) ↔ Ri (fun a b => P (f a) (f b)) L := by
  have ch : ∀ L : List α, Ch P (L.map f) ↔ Ch (fun a b => P (f a) (f b)) L := by
    intro L
    induction L with
    | nil => exact Iff.rfl
    | cons a L ih =>
      match L, ih with
      | [], _ => exact Iff.rfl
      | b :: t, ih => exact and_congr Iff.rfl ih
  match L with
  | [] => exact Iff.rfl
  | x :: r =>
    show Ch P (f x :: r.map f ++ [f x]) ↔ Ch _ (x :: r ++ [x])
    rw [← ch]; simp
/-- the points of what is left -/
theorem Fk.ins {nm : Int → C3 → Prop} {rs : List (C3 × Int)} (h : Fk nm rs) {l : C3} {num : Int} (hl : nm num l) (hn : ∃ r ∈ rs, htC l r.1 < 0) (hp : ∃ r ∈ rs, 0 < htC l r.1) (q : C3) :
    InC ((rotR (G.cutY l num rs)).map (·.1)) q ↔ InC (rs.map (·.1)) q ∧ htC l q ≤ 0 := by
  obtain ⟨A, Bs, a1, ak, b1, bm, hr, hh, hk, hb, hm, hA, hB, e, f⟩ := h.form (num := num) hn hp
  have fN := f hl
  have fW := h.rot hr
  have rN : Rot (rotR (G.cutY l num rs)) (A ++ [(leave l ak.1 b1.1, num), (comes l bm.1 a1.1, bm.2)]) := (rotR_rot _).symm.trans e
  have s1 : InC ((rotR (G.cutY l num rs)).map (·.1)) q ↔ InC ((A ++ [(leave l ak.1 b1.1, num), (comes l bm.1 a1.1, bm.2)]).map (·.1)) q := ⟨fun k => (rN.map _).ri k, fun k => (rN.symm.map _).ri k⟩
  have s2 : InC (rs.map (·.1)) q ↔ InC ((A ++ Bs).map (·.1)) q := ⟨fun k => (hr.map _).ri k, fun k => (hr.symm.map _).ri k⟩
  rw [s1, s2]
  have ia1 : a1 ∈ A := List.mem_of_head? hh
  have iak : ak ∈ A := List.mem_of_getLast? hk
  have ib1 : b1 ∈ Bs := List.mem_of_head? hb
  have ibm : bm ∈ Bs := List.mem_of_getLast? hm
  obtain ⟨α1, β1, g1, m1, pb, _, _, z1⟩ := leave_mx (fW.w ak (by simp [iak])) (fW.w b1 (by simp [ib1])) (hA ak iak) (hB b1 ib1)
  obtain ⟨α2, β2, g2, m2, pa, _, _, z2⟩ := comes_mx (fW.w a1 (by simp [ia1])) (fW.w bm (by simp [ibm])) (hA a1 ia1) (hB bm ibm)
  have hp12 : 0 < dt (leave l ak.1 b1.1) (comes l bm.1 a1.1) a1.1 := by
    have cv := fN.cv
    rw [List.map_append, Cv.app] at cv
    have := cv.2.2.1 a1.1 (List.mem_map_of_mem (f := fun r : C3 × Int => r.1) ia1)
    simp only [List.map_cons, List.map_nil, List.pairwise_cons] at this
    rw [dt_cyc]
    exact this.1 _ (by simp)
  have four := dt_four l (leave l ak.1 b1.1) a1.1 (comes l bm.1 a1.1) q
  rw [z1, z2, dt_swap2 (leave l ak.1 b1.1) (comes l bm.1 a1.1) a1.1, Int.mul_zero, Int.mul_zero, Int.neg_mul] at four
  have ha1 := hA a1 ia1
  generalize ep1 : leave l ak.1 b1.1 = p1 at *
  generalize ep2 : comes l bm.1 a1.1 = p2 at *
  have four' : dt p1 p2 q * htC l a1.1 = dt p1 p2 a1.1 * htC l q := by
    omega
  have k12 : 0 ≤ dt p1 p2 q ↔ htC l q ≤ 0 := by
    constructor
    · intro k
      rcases Int.lt_or_le 0 (htC l q) with o | o
      · have x1 := Int.mul_pos hp12 o
        have x2 := Int.mul_nonneg k (show 0 ≤ -htC l a1.1 by omega)
        rw [Int.mul_neg] at x2
        omega
      · exact o
    · intro k
      rcases Int.lt_or_le (dt p1 p2 q) 0 with o | o
      · have x1 := Int.mul_pos_of_neg_of_neg o ha1
        have x2 := Int.mul_nonneg (Int.le_of_lt hp12) (show 0 ≤ -htC l q by omega)
        rw [Int.mul_neg] at x2
        omega
      · exact o
  have y1 : β1 * dt ak.1 b1.1 q = g1 * dt ak.1 p1 q := by
    have := m1.dt q ak.1
    rw [dt_self2, dt_cyc2 ak.1 p1 q, dt_cyc2 ak.1 b1.1 q] at this
    rw [this]; omega
  have y2 : α2 * dt bm.1 a1.1 q = g2 * dt p2 a1.1 q := by
    have := m2.dt a1.1 q
    rw [dt_self3, dt_cyc p2 a1.1 q, dt_cyc bm.1 a1.1 q] at this
    rw [this]; omega
  unfold InC
  rw [Ri.map, Ri.map, Ri.form hh hk (B := [(p1, num), (p2, bm.2)]) rfl rfl, Ri.form hh hk hb hm]
  constructor
  · rintro ⟨c1, c2, c3, c4⟩
    have c3' : 0 ≤ dt p1 p2 q := c3.1
    have hq : htC l q ≤ 0 := k12.mp c3'
    refine ⟨⟨c1, nn_of_mul pb (by rw [y1]; exact Int.mul_nonneg (Int.le_of_lt m1.1) c2), ?_, nn_of_mul pa (by rw [y2]; exact Int.mul_nonneg (Int.le_of_lt m2.1) c4)⟩, hq⟩
    have inN : InC ((A ++ [(p1, num), (p2, bm.2)]).map (·.1)) q := by
      unfold InC
      rw [Ri.map, Ri.form hh hk (B := [(p1, num), (p2, bm.2)]) rfl rfl]
      exact ⟨c1, c2, c3, c4⟩
    have l3 : 3 ≤ ((A ++ Bs).map (·.1)).length := by rw [List.length_map]; exact fW.three
    have l2 : 2 ≤ ((A ++ Bs).map (fun r : C3 × Int => r.1)).length := by omega
    have inW : ∀ c ∈ (A ++ [(p1, num), (p2, bm.2)]).map (·.1), InC ((A ++ Bs).map (·.1)) c := fun c hc => by
      have base : ∀ r ∈ A ++ Bs, InC ((A ++ Bs).map (·.1)) r.1 := fun r hr => Cv.edges fW.cv l3 (List.mem_map_of_mem (f := fun r : C3 × Int => r.1) hr)
      obtain ⟨r, hr, rfl⟩ := List.mem_map.mp hc
      rcases List.mem_append.mp hr with k | k
      · exact base r (List.mem_append_left _ k)
      · simp only [List.mem_cons, List.not_mem_nil, or_false] at k
        rcases k with rfl | rfl
        · exact InC.mix m1 l2 (base ak (by simp [iak])) (base b1 (by simp [ib1]))
        · exact InC.mix m2 l2 (base bm (by simp [ibm])) (base a1 (by simp [ia1]))
    have all : ∀ c ∈ (A ++ [(p1, num), (p2, bm.2)]).map (·.1), Ch (fun r s => 0 ≤ dt r.1 s.1 c) Bs := fun c hc => by
      have := inW c hc
      unfold InC at this
      rw [Ri.map, Ri.form hh hk hb hm] at this
      exact this.2.2.1
    refine Ch.of fun i a b ha hb => ?_
    exact InC.dt fN.cv (by rw [List.length_map]; exact fN.three) inN fun c hc => (all c hc).get ha hb
  · rintro ⟨⟨c1, c2, c3, c4⟩, hq⟩
    refine ⟨c1, nn_of_mul m1.1 (by rw [← y1]; exact Int.mul_nonneg (Int.le_of_lt pb) c2), ⟨k12.mpr hq, trivial⟩, nn_of_mul (x := dt p2 a1.1 q) m2.1 (by rw [← y2]; exact Int.mul_nonneg (Int.le_of_lt pa) c4)⟩

/-! ### areas as fractions -/
def qX (c : C3) : Rat := (c.1 : Rat) / (c.2.2 : Rat)
def qY (c : C3) : Rat := (c.2.1 : Rat) / (c.2.2 : Rat)
def cr (c d : C3) : Rat := qX c * qY d - qX d * qY c
/-- twice the area of three points -/
def tq (o c d : C3) : Rat := (qX c - qX o) * (qY d - qY o) - (qX d - qX o) * (qY c - qY o)
theorem q_ne {w : Int} (h : 0 < w) : (w : Rat) ≠ 0 := by
  intro e
  have : w = 0 := by exact_mod_cast e
  omega
theorem tq_dt {o c d : C3} (h1 : 0 < o.2.2) (h2 : 0 < c.2.2) (h3 : 0 < d.2.2) : tq o c d * ((o.2.2 : Rat) * c.2.2 * d.2.2) = ((dt o c d : Int) : Rat) := by
  have e1 := q_ne h1
  have e2 := q_ne h2
  have e3 := q_ne h3
  have x1 : qX o * o.2.2 = o.1 := Rat.div_mul_cancel e1
  have x2 : qX c * c.2.2 = c.1 := Rat.div_mul_cancel e2
  have x3 : qX d * d.2.2 = d.1 := Rat.div_mul_cancel e3
  have y1 : qY o * o.2.2 = o.2.1 := Rat.div_mul_cancel e1
  have y2 : qY c * c.2.2 = c.2.1 := Rat.div_mul_cancel e2
  have y3 : qY d * d.2.2 = d.2.1 := Rat.div_mul_cancel e3
  have e : ((dt o c d : Int) : Rat) = (o.1 : Rat) * ((c.2.1 : Rat) * d.2.2 - d.2.1 * c.2.2) - o.2.1 * ((c.1 : Rat) * d.2.2 - d.1 * c.2.2) + o.2.2 * ((c.1 : Rat) * d.2.1 - d.1 * c.2.1) := by
    unfold dt twI
    simp only [Rat.intCast_add, Rat.intCast_sub, Rat.intCast_mul]
  rw [e, ← x1, ← x2, ← x3, ← y1, ← y2, ← y3]
  unfold tq
  generalize (o.2.2 : Rat) = u
  generalize (c.2.2 : Rat) = v
  generalize (d.2.2 : Rat) = w
  grind
theorem q_pos {w : Int} (h : 0 < w) : (0 : Rat) < w := by exact_mod_cast h
theorem tq_zero {o c d : C3} (h1 : 0 < o.2.2) (h2 : 0 < c.2.2) (h3 : 0 < d.2.2) (h : dt o c d = 0) : tq o c d = 0 := by
  have e := tq_dt h1 h2 h3
  rw [h] at e
  have n : ((o.2.2 : Rat) * c.2.2 * d.2.2) ≠ 0 := Rat.ne_of_gt (Rat.mul_pos (Rat.mul_pos (q_pos h1) (q_pos h2)) (q_pos h3))
  rcases Rat.mul_eq_zero.mp (e.trans (by rfl)) with k | k
  · exact k
  · exact absurd k n
theorem tq_pos {o c d : C3} (h1 : 0 < o.2.2) (h2 : 0 < c.2.2) (h3 : 0 < d.2.2) (h : 0 < dt o c d) : 0 < tq o c d := by
  have e := tq_dt h1 h2 h3
  have n : 0 < ((o.2.2 : Rat) * c.2.2 * d.2.2) := Rat.mul_pos (Rat.mul_pos (q_pos h1) (q_pos h2)) (q_pos h3)
  have p : (0 : Rat) < ((dt o c d : Int) : Rat) := q_pos h
  rw [← e] at p
  rcases (Rat.le_total : tq o c d ≤ 0 ∨ 0 ≤ tq o c d) with k | k
  · exfalso
    have := Rat.mul_le_mul_of_nonneg_right k (Rat.le_of_lt n)
    rw [Rat.zero_mul] at this
    exact absurd p (Rat.not_lt.mpr this)
  · by_cases z : tq o c d = 0
    · rw [z, Rat.zero_mul] at p; exact absurd p (Rat.lt_irrefl)
    · grind
/-- sums along a row, and round a ring -/
def Su (f : C3 → C3 → Rat) : List C3 → Rat
  | [] => 0
  | [_] => 0
  | a :: b :: t => f a b + Su f (b :: t)
def Rs (f : C3 → C3 → Rat) : List C3 → Rat
  | [] => 0
  | x :: r => Su f (x :: r ++ [x])
theorem Su.app {f : C3 → C3 → Rat} (x : C3) (r : List C3) : ∀ a : List C3, Su f (a ++ x :: r) = Su f (a ++ [x]) + Su f (x :: r)
  | [] => by simp [Su, Rat.zero_add]
  | [y] => by simp [Su, Rat.add_zero]
  | y :: z :: a => by
    have := Su.app (f := f) x r (z :: a)
    simp only [List.cons_append, Su] at this ⊢
    rw [this, Rat.add_assoc]
theorem Su.snoc {f : C3 → C3 → Rat} {L : List C3} {k x : C3} (h : L.getLast? = some k) : Su f (L ++ [x]) = Su f L + f k x := by
  obtain ⟨L', rfl⟩ := List.getLast?_eq_some_iff.mp h
  rw [List.append_assoc, List.singleton_append, Su.app]
  simp [Su, Rat.add_zero]
theorem Rs.form {f : C3 → C3 → Rat} {A B : List C3} {a1 ak b1 bm : C3} (h1 : A.head? = some a1) (h2 : A.getLast? = some ak) (h3 : B.head? = some b1) (h4 : B.getLast? = some bm) :
    Rs f (A ++ B) = Su f A + f ak b1 + (Su f B + f bm a1) := by
  match A, B, h1, h3 with
  | x :: A', y :: B', h1, h3 =>
    simp only [List.head?_cons, Option.some.injEq] at h1 h3
    subst h1
    subst h3
    show Su f (x :: (A' ++ y :: B') ++ [x]) = _
    have e : x :: (A' ++ y :: B') ++ [x] = (x :: A') ++ y :: (B' ++ [x]) := by simp
    rw [e, Su.app, Su.snoc h2, ← List.cons_append, Su.snoc h4]
theorem Rs.rot {f : C3 → C3 → Rat} : ∀ {L K : List C3}, Rot L K → Rs f L = Rs f K := by
  rintro _ _ ⟨x, y, rfl, rfl⟩
  match x, y with
  | [], y => simp
  | x, [] => simp
  | x :: a, y :: b =>
    have eA : (x :: a).getLast? = some ((x :: a).getLast (by simp)) := List.getLast?_eq_some_getLast _
    have eB : (y :: b).getLast? = some ((y :: b).getLast (by simp)) := List.getLast?_eq_some_getLast _
    rw [Rs.form rfl eA rfl eB, Rs.form rfl eB rfl eA, Rat.add_comm]
theorem Su.congr {f g : C3 → C3 → Rat} : ∀ {L : List C3}, (∀ a ∈ L, ∀ b ∈ L, f a b = g a b) → Su f L = Su g L
  | [], _ => rfl
  | [_], _ => rfl
  | a :: b :: t, h => by
    show f a b + Su f (b :: t) = g a b + Su g (b :: t)
    rw [h a (by simp) b (by simp), Su.congr (L := b :: t) fun a ha b hb => h a (List.mem_cons_of_mem _ ha) b (List.mem_cons_of_mem _ hb)]
theorem Su.add {f g h : C3 → C3 → Rat} : ∀ {L : List C3}, (∀ a ∈ L, ∀ b ∈ L, f a b + g a b = h a b) → Su f L + Su g L = Su h L
  | [], _ => Rat.add_zero 0
  | [_], _ => Rat.add_zero 0
  | a :: b :: t, k => by
    show f a b + Su f (b :: t) + (g a b + Su g (b :: t)) = h a b + Su h (b :: t)
    rw [← k a (by simp) b (by simp), ← Su.add (L := b :: t) fun a ha b hb => k a (List.mem_cons_of_mem _ ha) b (List.mem_cons_of_mem _ hb)]
    grind
theorem Rs.add {f g h : C3 → C3 → Rat} {L : List C3} (k : ∀ a ∈ L, ∀ b ∈ L, f a b + g a b = h a b) : Rs f L + Rs g L = Rs h L := by
  match L with
  | [] => exact Rat.add_zero 0
  | x :: r =>
    refine Su.add fun a ha b hb => k a ?_ b ?_
    · simp at ha ⊢; rcases ha with h | h | h <;> simp [h]
    · simp at hb ⊢; rcases hb with h | h | h <;> simp [h]
theorem Su.zero {f : C3 → C3 → Rat} : ∀ {L : List C3}, (∀ a ∈ L, ∀ b ∈ L, f a b = 0) → Su f L = 0
  | [], _ => rfl
  | [_], _ => rfl
  | a :: b :: t, h => by
    show f a b + Su f (b :: t) = 0
    rw [h a (by simp) b (by simp), Su.zero (L := b :: t) fun a ha b hb => h a (List.mem_cons_of_mem _ ha) b (List.mem_cons_of_mem _ hb), Rat.add_zero]
theorem Su.base (o : C3) : ∀ (L : List C3) (x z : C3), (x :: L).getLast? = some z → Su (tq o) (x :: L) = Su cr (x :: L) + qX o * (qY x - qY z) + qY o * (qX z - qX x)
  | [], x, z, h => by simp at h; subst h; simp only [Su]; grind
  | y :: L, x, z, h => by
    rw [List.getLast?_cons_cons] at h
    have := Su.base o L y z h
    simp only [Su] at this ⊢
    rw [this]
    unfold tq cr
    grind
theorem Rs.base (o : C3) (L : List C3) : Rs (tq o) L = Rs cr L := by
  match L with
  | [] => rfl
  | x :: r =>
    have := Su.base o (r ++ [x]) x x (by rw [← List.cons_append]; exact List.getLast?_concat)
    show Su (tq o) (x :: (r ++ [x])) = Su cr (x :: (r ++ [x]))
    rw [this]
    grind
/-- twice the area -/
def ar2 (L : List C3) : Rat := Rs cr L
theorem tq_self (o d : C3) : tq o o d = 0 := by unfold tq; grind
theorem tq_self2 (o d : C3) : tq o d o = 0 := by unfold tq; grind
theorem ar2_fan (c : C3) (r : List C3) : ar2 (c :: r) = Su (tq c) r := by
  unfold ar2
  rw [← Rs.base c]
  match r with
  | [] => show tq c c c + 0 = 0; rw [tq_self, Rat.add_zero]
  | d :: r =>
    obtain ⟨z, eB⟩ : ∃ z, (d :: r).getLast? = some z := ⟨_, List.getLast?_eq_some_getLast (by simp)⟩
    have := Rs.form (f := tq c) (A := [c]) (B := d :: r) (a1 := c) (ak := c) (b1 := d) rfl rfl rfl eB
    rw [show c :: d :: r = [c] ++ d :: r from rfl, this, tq_self, tq_self2]
    simp only [Su]
    grind
theorem ar2_pos {cs : List C3} (hc : Cv cs) (h3 : 3 ≤ cs.length) (hw : ∀ c ∈ cs, 0 < c.2.2) : 0 < ar2 cs := by
  match cs, h3 with
  | c :: d :: e :: r, h3 =>
    rw [ar2_fan]
    have nn : ∀ L : List C3, (∀ a ∈ L, 0 < a.2.2) → L.Pairwise (fun q s => 0 < dt c q s) → 0 ≤ Su (tq c) L := by
      intro L
      induction L with
      | nil => intro _ _; exact Rat.le_refl
      | cons a L ih =>
        intro h1 h2
        match L, ih with
        | [], _ => exact Rat.le_refl
        | b :: t, ih =>
          rw [List.pairwise_cons] at h2
          have p := tq_pos (hw c (by simp)) (h1 a (by simp)) (h1 b (by simp)) (h2.1 b (by simp))
          have q := ih (fun a ha => h1 a (List.mem_cons_of_mem _ ha)) h2.2
          show 0 ≤ tq c a b + Su (tq c) (b :: t)
          grind
    have h := hc.1
    rw [List.pairwise_cons] at h
    have p := tq_pos (hw c (by simp)) (hw d (by simp)) (hw e (by simp)) (h.1 e (by simp))
    have q := nn (e :: r) (fun a ha => hw a (by simp at ha ⊢; rcases ha with h | h <;> simp [h])) h.2
    show 0 < tq c d e + Su (tq c) (e :: r)
    grind
/-! ### the areas of both parts come to the whole -/
def ngC (l : C3) : C3 := (0 - l.1, 0 - l.2.1, 0 - l.2.2)
theorem ht_ng (l c : C3) : htC (ngC l) c = -htC l c := by unfold ngC htC htI; grind
theorem cx_ng (c d : C3) (h t : Int) : cxC c d (-h) (-t) = cxC c d h t := by
  have e : ∀ x : Int, ab (-x) = ab x := fun x => by unfold ab; split <;> split <;> omega
  unfold cxC
  rw [e, e]
/-- the part of an edge that isn't before the line -/
def np (o l c d : C3) : Rat := if htC l c < 0 then (if htC l d < 0 then tq o c d else tq o c (leave l c d)) else (if htC l d < 0 then tq o (comes l c d) d else 0)
theorem tq_four (o c x d : C3) : tq o c x + tq o x d = tq o c d + tq c x d := by unfold tq; grind
theorem Mx.flat {x c d : C3} {α β g : Int} (m : Mx x c d α β g) : G.dt c x d = 0 := by
  have e := m.dt d c
  rw [dt_self2, dt_self3, ← dt_cyc d c x] at e
  have := m.1
  rcases Int.mul_eq_zero.mp (show g * G.dt c x d = 0 by omega) with k | k
  · omega
  · exact k
theorem np_both {o l c d : C3} (nl : l.1 ≠ 0 ∨ l.2.1 ≠ 0) (wo : 0 < o.2.2) (wc : 0 < c.2.2) (wd : 0 < d.2.2) (ho : htC l o = 0) : np o l c d + np o (ngC l) c d = tq o c d := by
  have z0 : ∀ x : Rat, x + 0 = x := Rat.add_zero
  have z1 : ∀ x : Rat, 0 + x = x := Rat.zero_add
  unfold np
  rw [ht_ng, ht_ng]
  rcases Int.lt_trichotomy (htC l c) 0 with h | h | h
  · rw [if_pos h, if_neg (show ¬ -htC l c < 0 by omega)]
    rcases Int.lt_trichotomy (htC l d) 0 with t | t | t
    · rw [if_pos t, if_neg (by omega), z0]
    · rw [if_neg (by omega), if_neg (by omega), z0]
      unfold leave
      rw [if_neg (by omega)]
    · rw [if_neg (by omega), if_pos (by omega)]
      unfold leave comes
      rw [if_pos t, ht_ng, ht_ng, if_pos (by omega), cx_ng, tq_four]
      obtain ⟨g, m⟩ := cx_mx (h := htC l c) wc wd (show htC l d ≠ 0 by omega)
      rw [tq_zero wc (cx_low wc wd (show htC l d ≠ 0 by omega)).1 wd m.flat, z0]
  · rw [if_neg (by omega), if_neg (show ¬ -htC l c < 0 by omega)]
    rcases Int.lt_trichotomy (htC l d) 0 with t | t | t
    · rw [if_pos t, if_neg (by omega), z0]
      unfold comes
      rw [if_neg (by omega)]
    · rw [if_neg (by omega), if_neg (by omega), z0]
      rw [tq_zero wo wc wd (on3 nl ho h t)]
    · rw [if_neg (by omega), if_pos (by omega), z1]
      unfold comes
      rw [ht_ng, if_neg (by omega)]
  · rw [if_neg (by omega), if_pos (show -htC l c < 0 by omega)]
    rcases Int.lt_trichotomy (htC l d) 0 with t | t | t
    · rw [if_pos t, if_neg (by omega)]
      unfold leave comes
      rw [if_pos h, ht_ng, ht_ng, if_pos (by omega), cx_ng, Rat.add_comm, tq_four]
      obtain ⟨g, m⟩ := cx_mx (h := htC l c) wc wd (show htC l d ≠ 0 by omega)
      rw [tq_zero wc (cx_low wc wd (show htC l d ≠ 0 by omega)).1 wd m.flat, z0]
    · rw [if_neg (by omega), if_neg (by omega), z1]
      unfold leave
      rw [ht_ng, if_neg (by omega)]
    · rw [if_neg (by omega), if_pos (by omega), z1]
theorem Fk.ar {nm : Int → C3 → Prop} {rs : List (C3 × Int)} (h : Fk nm rs) {l : C3} {num : Int} (nl : l.1 ≠ 0 ∨ l.2.1 ≠ 0) (hn : ∃ r ∈ rs, htC l r.1 < 0) (hp : ∃ r ∈ rs, 0 < htC l r.1) {o : C3} (wo : 0 < o.2.2) (ho : htC l o = 0) :
    ar2 ((rotR (G.cutY l num rs)).map (·.1)) = Rs (np o l) (rs.map (·.1)) := by
  obtain ⟨A, Bs, a1, ak, b1, bm, hr, hh, hk, hb, hm, hA, hB, e, _⟩ := h.form (num := num) hn hp
  have fW := h.rot hr
  have rN : Rot (rotR (G.cutY l num rs)) (A ++ [(leave l ak.1 b1.1, num), (comes l bm.1 a1.1, bm.2)]) := (rotR_rot _).symm.trans e
  have ia1 : a1 ∈ A := List.mem_of_head? hh
  have iak : ak ∈ A := List.mem_of_getLast? hk
  have ib1 : b1 ∈ Bs := List.mem_of_head? hb
  have ibm : bm ∈ Bs := List.mem_of_getLast? hm
  have L1 := leave_low (l := l) (fW.lows (List.mem_append_left Bs iak)) (fW.lows (List.mem_append_right A ib1))
  have L2 := comes_low (l := l) (fW.lows (List.mem_append_left Bs ia1)) (fW.lows (List.mem_append_right A ibm)) (hA a1 ia1)
  obtain ⟨_, _, _, _, _, _, _, z1⟩ := leave_mx (fW.w ak (by simp [iak])) (fW.w b1 (by simp [ib1])) (hA ak iak) (hB b1 ib1)
  obtain ⟨_, _, _, _, _, _, _, z2⟩ := comes_mx (fW.w a1 (by simp [ia1])) (fW.w bm (by simp [ibm])) (hA a1 ia1) (hB bm ibm)
  unfold ar2
  rw [← Rs.base o, Rs.rot (rN.map (·.1)), Rs.rot (hr.map (·.1)), List.map_append, List.map_append]
  have gA : (A.map (·.1)).head? = some a1.1 := by rw [List.head?_map, hh]; rfl
  have gK : (A.map (·.1)).getLast? = some ak.1 := by rw [List.getLast?_map, hk]; rfl
  have gB : (Bs.map (·.1)).head? = some b1.1 := by rw [List.head?_map, hb]; rfl
  have gM : (Bs.map (·.1)).getLast? = some bm.1 := by rw [List.getLast?_map, hm]; rfl
  rw [Rs.form gA gK gB gM, Rs.form (B := [(leave l ak.1 b1.1, num), (comes l bm.1 a1.1, bm.2)].map (·.1)) (b1 := leave l ak.1 b1.1) (bm := comes l bm.1 a1.1) gA gK rfl rfl]
  have hA' : ∀ c ∈ A.map (·.1), htC l c < 0 := fun c hc => by obtain ⟨r, hr, rfl⟩ := List.mem_map.mp hc; exact hA r hr
  have hB' : ∀ c ∈ Bs.map (·.1), 0 ≤ htC l c := fun c hc => by obtain ⟨r, hr, rfl⟩ := List.mem_map.mp hc; exact hB r hr
  have x1 : Su (np o l) (A.map (·.1)) = Su (tq o) (A.map (·.1)) := Su.congr fun a ha b hb => by unfold np; rw [if_pos (hA' a ha), if_pos (hA' b hb)]
  have x2 : Su (np o l) (Bs.map (·.1)) = 0 := Su.zero fun a ha b hb => by
    have := hB' a ha
    have := hB' b hb
    unfold np; rw [if_neg (by omega), if_neg (by omega)]
  have x3 : np o l ak.1 b1.1 = tq o ak.1 (leave l ak.1 b1.1) := by
    have := hB b1 ib1
    unfold np; rw [if_pos (hA ak iak), if_neg (by omega)]
  have x4 : np o l bm.1 a1.1 = tq o (comes l bm.1 a1.1) a1.1 := by
    have := hB bm ibm
    unfold np; rw [if_neg (by omega), if_pos (hA a1 ia1)]
  have x5 : tq o (leave l ak.1 b1.1) (comes l bm.1 a1.1) = 0 := tq_zero wo L1.1 L2.1 (on3 nl ho z1 z2)
  rw [x1, x2, x3, x4]
  simp only [List.map_cons, List.map_nil, Su]
  rw [x5, Rat.add_zero]
theorem Fk.parts {nm : Int → C3 → Prop} {rs : List (C3 × Int)} (h : Fk nm rs) {l : C3} {n m : Int} (nl : l.1 ≠ 0 ∨ l.2.1 ≠ 0) (hn : ∃ r ∈ rs, htC l r.1 < 0) (hp : ∃ r ∈ rs, 0 < htC l r.1) :
    ar2 ((rotR (G.cutY l n rs)).map (·.1)) + ar2 ((rotR (G.cutY (ngC l) m rs)).map (·.1)) = ar2 (rs.map (·.1)) := by
  obtain ⟨A, Bs, a1, ak, b1, bm, hr, hh, hk, hb, hm, hA, hB, e, _⟩ := h.form (num := n) hn hp
  have fW := h.rot hr
  have iak : ak ∈ A := List.mem_of_getLast? hk
  have ib1 : b1 ∈ Bs := List.mem_of_head? hb
  have L1 := leave_low (l := l) (fW.lows (List.mem_append_left Bs iak)) (fW.lows (List.mem_append_right A ib1))
  obtain ⟨_, _, _, _, _, _, _, z1⟩ := leave_mx (fW.w ak (by simp [iak])) (fW.w b1 (by simp [ib1])) (hA ak iak) (hB b1 ib1)
  rw [h.ar nl hn hp L1.1 z1, h.ar (l := ngC l) (by unfold ngC; simp only; omega) (hp.imp fun r k => ⟨k.1, by rw [ht_ng]; omega⟩) (hn.imp fun r k => ⟨k.1, by rw [ht_ng]; omega⟩) L1.1 (by rw [ht_ng, z1]; rfl)]
  unfold ar2
  rw [← Rs.base (leave l ak.1 b1.1)]
  have hw : ∀ c ∈ rs.map (·.1), 0 < c.2.2 := fun c hc => by obtain ⟨r, hr, rfl⟩ := List.mem_map.mp hc; exact h.w r hr
  exact Rs.add fun a ha b hb => np_both nl L1.1 (hw a ha) (hw b hb) z1

/-! ### fields as rows, what cut tells of them -/
abbrev fldR (rs : List (C3 × Int)) : D := fldD (rs.map (·.1)) (rs.map (·.2))
def fldO : Option (List (C3 × Int)) → D
  | none => .non
  | some rs => fldR rs
def cutO (rs : List (C3 × Int)) (l : C3) (num : Int) : Option (List (C3 × Int)) :=
  if rs.all (fun r => decide (htC l r.1 ≤ 0)) = true then some rs else if rs.all (fun r => decide (0 ≤ htC l r.1)) = true then none else some (rotR (cutY l num rs))
theorem zip_rows (rs : List (C3 × Int)) : (rs.map (·.1)).zip (rs.map (·.2)) = rs := by
  induction rs with
  | nil => rfl
  | cons r rs ih => simp [ih]
theorem cutD3_O {rs : List (C3 × Int)} (l : C3) (num : Int) (h1 : 1 ≤ rs.length) : cutD3 (rs.map (·.1)) (rs.map (·.2)) l num = fldO (cutO rs l num) := by
  unfold cutD3 cutO
  rw [List.all_map, List.all_map]
  simp only [Function.comp_def]
  split
  · rfl
  · split
    · rfl
    · rw [cutR_Y l num (by simp) (by simpa using h1), zip_rows]; rfl
theorem cutO_all {rs : List (C3 × Int)} {l : C3} {num : Int} (h : ∀ r ∈ rs, htC l r.1 ≤ 0) : cutO rs l num = some rs := by
  unfold cutO
  rw [if_pos (by rw [List.all_eq_true]; exact fun r hr => decide_eq_true (h r hr))]
theorem cutO_non {rs : List (C3 × Int)} {l : C3} {num : Int} (h : ∀ r ∈ rs, 0 ≤ htC l r.1) (k : ∃ r ∈ rs, 0 < htC l r.1) : cutO rs l num = none := by
  unfold cutO
  rw [if_neg, if_pos (by rw [List.all_eq_true]; exact fun r hr => decide_eq_true (h r hr))]
  rw [List.all_eq_true]
  intro z
  obtain ⟨r, hr, h⟩ := k
  have := of_decide_eq_true (z r hr)
  omega
theorem cutO_some {rs : List (C3 × Int)} {l : C3} {num : Int} (h : ∃ r ∈ rs, htC l r.1 < 0) (k : ∃ r ∈ rs, 0 < htC l r.1) : cutO rs l num = some (rotR (cutY l num rs)) := by
  unfold cutO
  rw [if_neg, if_neg]
  · rw [List.all_eq_true]
    intro z
    obtain ⟨r, hr, h⟩ := h
    have := of_decide_eq_true (z r hr)
    omega
  · rw [List.all_eq_true]
    intro z
    obtain ⟨r, hr, h⟩ := k
    have := of_decide_eq_true (z r hr)
    omega
theorem cut_cases (rs : List (C3 × Int)) (l : C3) : (∀ r ∈ rs, htC l r.1 ≤ 0) ∨ ((∀ r ∈ rs, 0 ≤ htC l r.1) ∧ ∃ r ∈ rs, 0 < htC l r.1) ∨ ((∃ r ∈ rs, htC l r.1 < 0) ∧ ∃ r ∈ rs, 0 < htC l r.1) := by
  by_cases a : ∀ r ∈ rs, htC l r.1 ≤ 0
  · exact .inl a
  · have p : ∃ r ∈ rs, 0 < htC l r.1 := by
      apply Classical.byContradiction
      intro n
      exact a fun r hr => Int.not_lt.mp fun k => n ⟨r, hr, k⟩
    by_cases b : ∀ r ∈ rs, 0 ≤ htC l r.1
    · exact .inr (.inl ⟨b, p⟩)
    · refine .inr (.inr ⟨?_, p⟩)
      apply Classical.byContradiction
      intro n
      exact b fun r hr => Int.not_lt.mp fun k => n ⟨r, hr, k⟩
/-- a field does not lie on a line -/
theorem Fk.flat {nm : Int → C3 → Prop} {rs : List (C3 × Int)} (h : Fk nm rs) {l : C3} (nl : l.1 ≠ 0 ∨ l.2.1 ≠ 0) (k : ∀ r ∈ rs, htC l r.1 = 0) : False := by
  have h3 := h.three
  have cv := h.cv
  match rs, h3 with
  | a :: b :: c :: r, h3 =>
    have := on3 nl (k a (by simp)) (k b (by simp)) (k c (by simp))
    have p := cv.1
    simp only [List.map_cons, List.pairwise_cons] at p
    have := p.1 c.1 (by simp)
    omega
theorem Fk.cutO {nm : Int → C3 → Prop} {rs qs : List (C3 × Int)} (h : Fk nm rs) {l : C3} {num : Int} (hl : nm num l) (e : G.cutO rs l num = some qs) :
    Fk nm qs ∧ (Lead rs → Lead qs) ∧ qs.length ≤ rs.length + 1 ∧ ∀ q, InC (qs.map (·.1)) q ↔ InC (rs.map (·.1)) q ∧ htC l q ≤ 0 := by
  rcases cut_cases rs l with c | ⟨c, p⟩ | ⟨c, p⟩
  · rw [cutO_all c] at e
    cases e
    refine ⟨h, fun k => k, by omega, fun q => ⟨fun k => ⟨k, ?_⟩, fun k => k.1⟩⟩
    exact InC.ht h.cv (by rw [List.length_map]; exact h.three) k fun c' hc => by obtain ⟨r, hr, rfl⟩ := List.mem_map.mp hc; exact c r hr
  · rw [cutO_non c p] at e; cases e
  · rw [cutO_some c p] at e
    cases e
    have := h.cutY hl c p
    exact ⟨this.1, fun _ => this.2.1, this.2.2, h.ins hl c p⟩
theorem Fk.none {nm : Int → C3 → Prop} {rs : List (C3 × Int)} (h : Fk nm rs) {l : C3} {num : Int} (e : G.cutO rs l num = none) : (∀ r ∈ rs, 0 ≤ htC l r.1) ∧ ∀ q, InC (rs.map (·.1)) q → 0 ≤ htC l q := by
  rcases cut_cases rs l with c | ⟨c, p⟩ | ⟨c, p⟩
  · rw [cutO_all c] at e; cases e
  · refine ⟨c, fun q k => ?_⟩
    rw [ht_lf]
    exact InC.nn h.cv (by rw [List.length_map]; exact h.three) k fun c' hc => by obtain ⟨r, hr, rfl⟩ := List.mem_map.mp hc; rw [← ht_lf]; exact c r hr
  · rw [cutO_some c p] at e; cases e
theorem Fk.corner {nm : Int → C3 → Prop} {rs : List (C3 × Int)} (h : Fk nm rs) {r : C3 × Int} (hr : r ∈ rs) : InC (rs.map (·.1)) r.1 :=
  Cv.edges h.cv (by rw [List.length_map]; exact h.three) (List.mem_map_of_mem (f := fun r : C3 × Int => r.1) hr)
/-- what all corners keep, all corners of what is left keep -/
theorem Fk.keep {nm : Int → C3 → Prop} {rs qs : List (C3 × Int)} (h : Fk nm rs) {l : C3} {num : Int} (hl : nm num l) (e : G.cutO rs l num = some qs) {u : C3} (hu : ∀ r ∈ rs, 0 ≤ lf u r.1) : ∀ r ∈ qs, 0 ≤ lf u r.1 := fun r hr => by
  obtain ⟨f, _, _, k⟩ := h.cutO hl e
  refine InC.nn h.cv (by rw [List.length_map]; exact h.three) ((k r.1).mp (f.corner hr)).1 fun c hc => ?_
  obtain ⟨r, hr, rfl⟩ := List.mem_map.mp hc
  exact hu r hr
/-! what area tells of them -/
def vq (f : Int × Int) : Rat := (f.1 : Rat) / (f.2 : Rat)
theorem q_ne0 {w : Int} (h : w ≠ 0) : (w : Rat) ≠ 0 := by
  intro e
  have : w = 0 := by exact_mod_cast e
  omega
theorem vq_add {f g : Int × Int} (h1 : f.2 ≠ 0) (h2 : g.2 ≠ 0) : vq (fadd f g) = vq f + vq g := by
  have e1 := q_ne0 h1
  have e2 := q_ne0 h2
  unfold vq fadd
  simp only [Rat.intCast_add, Rat.intCast_mul]
  generalize (f.1 : Rat) = a
  generalize (g.1 : Rat) = b
  generalize (f.2 : Rat) = c at *
  generalize (g.2 : Rat) = d at *
  grind
theorem vq_tri {c p q : C3} (h1 : 0 < c.2.2) (h2 : 0 < p.2.2) (h3 : 0 < q.2.2) : vq (tri c p q) * 2 = tq c p q := by
  have e := tq_dt h1 h2 h3
  have e1 := q_ne h1
  have e2 := q_ne h2
  have e3 := q_ne h3
  have d : ((dt c p q : Int) : Rat) = (((tri c p q).1 : Int) : Rat) := rfl
  rw [d] at e
  unfold vq
  rw [← e]
  unfold tri
  simp only [Rat.intCast_mul]
  generalize tq c p q = t
  generalize (c.2.2 : Rat) = u at *
  generalize (p.2.2 : Rat) = v at *
  generalize (q.2.2 : Rat) = w at *
  have : ((2 : Int) : Rat) = 2 := rfl
  rw [this]
  grind
theorem fan_val {c : C3} (hc : 0 < c.2.2) : ∀ (r : List C3) (f : Int × Int), f.2 ≠ 0 → (∀ x ∈ r, 0 < x.2.2) → vq ((fan c r).foldl fadd f) * 2 = vq f * 2 + Su (tq c) r ∧ ((fan c r).foldl fadd f).2 ≠ 0
  | [], f, h, _ => ⟨by simp only [fan, List.foldl_nil, Su]; grind, h⟩
  | [_], f, h, _ => ⟨by simp only [fan, List.foldl_nil, Su]; grind, h⟩
  | p :: q :: r, f, h, hw => by
    have wp := hw p (by simp)
    have wq := hw q (by simp)
    have n : (tri c p q).2 ≠ 0 := Int.mul_ne_zero (Int.mul_ne_zero (Int.mul_ne_zero (by decide) (by omega)) (by omega)) (by omega)
    have ih := fan_val hc (q :: r) (fadd f (tri c p q)) (Int.mul_ne_zero h n) fun x hx => hw x (List.mem_cons_of_mem _ hx)
    refine ⟨?_, ih.2⟩
    show vq ((fan c (q :: r)).foldl fadd (fadd f (tri c p q))) * 2 = _
    rw [ih.1, vq_add h n]
    show _ = vq f * 2 + (tq c p q + Su (tq c) (q :: r))
    rw [← vq_tri hc wp wq]
    grind
def arD : List C3 → D
  | [] => .non
  | c :: r => frP (fsum (fan c r))
theorem ar_val {cs : List C3} (h1 : 1 ≤ cs.length) (hw : ∀ c ∈ cs, 0 < c.2.2) : ∃ f : Int × Int, arD cs = frP f ∧ f.2 ≠ 0 ∧ vq f * 2 = ar2 cs := by
  match cs, h1 with
  | c :: r, _ =>
    have := fan_val (hw c (by simp)) r (0, 1) (by decide) fun x hx => hw x (List.mem_cons_of_mem _ hx)
    refine ⟨fsum (fan c r), rfl, this.2, ?_⟩
    rw [ar2_fan, show fsum (fan c r) = (fan c r).foldl fadd (0, 1) from rfl, this.1]
    have : vq (0, 1) = 0 := by unfold vq; simp; grind
    rw [this]; grind
/-- a fraction in lowest terms that stands for x -/
structure Fr (x : Rat) (a b : Int) : Prop where
  pos : 0 < b
  low : Int.gcd a b = 1
  val : (a : Rat) = x * b
theorem fr_of {f : Int × Int} (h : f.2 ≠ 0) : frP f = P2 (f.1 / by2 f.1 f.2) (f.2 / by2 f.1 f.2) ∧ Fr (vq f) (f.1 / by2 f.1 f.2) (f.2 / by2 f.1 f.2) := by
  refine ⟨rfl, by2_w h, by2_gcd h, ?_⟩
  have e := by2_eqx (x := f.1) (w := f.2)
  have n := q_ne0 h
  generalize f.1 / by2 f.1 f.2 = A at *
  generalize f.2 / by2 f.1 f.2 = B at *
  have e' : (A : Rat) * f.2 = f.1 * B := by exact_mod_cast e
  unfold vq
  grind
theorem Fr.uniq {x : Rat} {a b c d : Int} (h : Fr x a b) (k : Fr x c d) : a = c ∧ b = d := by
  refine low_eq h.pos k.pos h.low k.low ?_
  have e : (a : Rat) * d = c * b := by rw [h.val, k.val]; grind
  exact_mod_cast e
theorem Fr.topos {x : Rat} {a b : Int} (h : Fr x a b) (hx : 0 < x) : 0 < a := by
  have := Rat.mul_pos hx (q_pos h.pos)
  rw [← h.val] at this
  exact_mod_cast this
theorem Fr.inj {x y : Rat} {a b : Int} (h : Fr x a b) (k : Fr y a b) : x = y := by
  have e := h.val.symm.trans k.val
  have n := q_ne h.pos
  grind

/-! ### fields cut from a box by small lines -/
abbrev nmZ (_ : Int) (L : C3) : Prop := Zl 43 76 L
def BxB (c : C3) : Prop := 0 ≤ lf (1, 0, 2147483648) c ∧ 0 ≤ lf (-1, 0, 2147483648) c ∧ 0 ≤ lf (0, 1, 2147483648) c ∧ 0 ≤ lf (0, -1, 2147483648) c
structure Sf (rs : List (C3 × Int)) : Prop where
  fk : Fk nmZ rs
  bx : ∀ r ∈ rs, BxB r.1
theorem Sf.cut {rs qs : List (C3 × Int)} (h : Sf rs) {l : C3} {num : Int} (hl : Zl 43 76 l) (e : cutO rs l num = some qs) : Sf qs ∧ qs.length ≤ rs.length + 1 := by
  have k := h.fk.cutO (num := num) hl e
  exact ⟨⟨k.1, fun r hr => ⟨h.fk.keep hl e (fun r hr => (h.bx r hr).1) r hr, h.fk.keep hl e (fun r hr => (h.bx r hr).2.1) r hr, h.fk.keep hl e (fun r hr => (h.bx r hr).2.2.1) r hr, h.fk.keep hl e (fun r hr => (h.bx r hr).2.2.2) r hr⟩⟩, k.2.2.1⟩
theorem Sf.z {rs : List (C3 × Int)} (h : Sf rs) : ∀ r ∈ rs, Zc 120 r.1 := fun r hr => by
  have := h.fk.size (M := 43) (N := 76) (fun _ _ h => h) r hr
  exact ⟨this.1, this.2.1, this.2.2.mono (by decide)⟩
theorem Zl.z {M K : Nat} {l : C3} (h : Zl M K l) (k : M ≤ K) : Zc K l := ⟨h.1.mono k, h.2.1.mono k, h.2.2.1⟩
theorem Zl.ng {M K : Nat} {l : C3} (h : Zl M K l) : Zl M K (ngC l) := by
  unfold ngC
  refine ⟨?_, ?_, ?_, ?_⟩
  · show Zb M (0 - l.1); rw [Int.zero_sub]; exact h.1.neg
  · show Zb M (0 - l.2.1); rw [Int.zero_sub]; exact h.2.1.neg
  · show Zb K (0 - l.2.2); rw [Int.zero_sub]; exact h.2.2.1.neg
  · have := h.2.2.2; simp only; omega
abbrev bxRw (x y u v : Int) : List (C3 × Int) := [((x, y, 1), -1), ((u, y, 1), -2), ((u, v, 1), -3), ((x, v, 1), -4)]
theorem bxRw_fld (x y u v : Int) : fldD [(x, y, 1), (u, y, 1), (u, v, 1), (x, v, 1)] [-1, -2, -3, -4] = fldR (bxRw x y u v) := rfl
theorem box_Fk {nm : Int → C3 → Prop} {x y u v : Int} (h1 : x < u) (h2 : y < v) (n1 : nm (-1) (0, 1, y)) (n2 : nm (-2) (1, 0, u)) (n3 : nm (-3) (0, 1, v)) (n4 : nm (-4) (1, 0, x)) : Fk nm (bxRw x y u v) := by
  have p := Int.mul_pos (show 0 < u - x by omega) (show 0 < v - y by omega)
  refine ⟨by simp, ?_, ?_, ?_, ?_⟩
  · have e1 : dt (x, y, 1) (u, y, 1) (u, v, 1) = (u - x) * (v - y) := by unfold dt twI; grind
    have e2 : dt (x, y, 1) (u, y, 1) (x, v, 1) = (u - x) * (v - y) := by unfold dt twI; grind
    have e3 : dt (x, y, 1) (u, v, 1) (x, v, 1) = (u - x) * (v - y) := by unfold dt twI; grind
    have e4 : dt (u, y, 1) (u, v, 1) (x, v, 1) = (u - x) * (v - y) := by unfold dt twI; grind
    simp only [List.map_cons, List.map_nil, Cv, List.pairwise_cons, List.Pairwise.nil, List.mem_cons, List.not_mem_nil, or_false, false_implies, implies_true, and_true, forall_eq_or_imp, forall_eq, e1, e2, e3, e4]
    exact ⟨⟨⟨p, p⟩, p⟩, p⟩
  · intro r hr
    simp only [List.mem_cons, List.not_mem_nil, or_false] at hr
    rcases hr with rfl | rfl | rfl | rfl <;> exact (by decide : (0 : Int) < 1)
  · intro r hr
    simp only [List.mem_cons, List.not_mem_nil, or_false] at hr
    rcases hr with rfl | rfl | rfl | rfl <;> exact Int.gcd_one_right _
  · refine ⟨⟨_, n1, ?_, ?_⟩, ⟨_, n2, ?_, ?_⟩, ⟨_, n3, ?_, ?_⟩, ⟨_, n4, ?_, ?_⟩, trivial⟩ <;> (unfold htC htI; simp only; omega)
theorem Zl.sm {M K : Nat} {a b c : Int} (h1 : Zb M a) (h2 : Zb M b) (h3 : Zb K c) (h : a ≠ 0 ∨ b ≠ 0) : Zl M K (a, b, c) := ⟨h1, h2, h3, h⟩
theorem Sf.box {x y u v : Int} (h1 : x < u) (h2 : y < v) (x1 : -2147483648 ≤ x) (x2 : u ≤ 2147483648) (y1 : -2147483648 ≤ y) (y2 : v ≤ 2147483648) : Sf (bxRw x y u v) := by
  have z : ∀ k : Int, -2147483648 ≤ k → k ≤ 2147483648 → Zb 76 k := fun k a b => by show k.natAbs < 2 ^ 76; omega
  refine ⟨box_Fk h1 h2 ?_ ?_ ?_ ?_, ?_⟩
  · exact Zl.sm (by decide) (by decide) (z _ (by omega) (by omega)) (by decide)
  · exact Zl.sm (by decide) (by decide) (z _ (by omega) (by omega)) (by decide)
  · exact Zl.sm (by decide) (by decide) (z _ (by omega) (by omega)) (by decide)
  · exact Zl.sm (by decide) (by decide) (z _ (by omega) (by omega)) (by decide)
  · intro r hr
    simp only [List.mem_cons, List.not_mem_nil, or_false] at hr
    unfold BxB lf
    rcases hr with rfl | rfl | rfl | rfl <;> (simp only; omega)
theorem Sf.lens {rs : List (C3 × Int)} (h : Sf rs) : 1 ≤ (rs.map (·.1)).length ∧ (rs.map (·.1)).length = (rs.map (·.2)).length := by
  have := h.fk.three
  rw [List.length_map, List.length_map]
  exact ⟨by omega, rfl⟩
theorem ln_zl {a b c : Int} {M K : Nat} (h0 : a ≠ 0 ∨ b ≠ 0) (h1 : Zb M a) (h2 : Zb M b) (h3 : Zb K c) : Zl M K (a / (g3 a b c : Int), b / (g3 a b c : Int), c / (g3 a b c : Int)) := by
  refine ⟨Zb.quot h1, Zb.quot h2, Zb.quot h3, ?_⟩
  have d1 : (g3 a b c : Int) ∣ a := by
    have : (g3 a b c : Int) ∣ ((Int.gcd a b : Nat) : Int) := Int.gcd_dvd_left ..
    exact Int.dvd_trans this (Int.gcd_dvd_left ..)
  have d2 : (g3 a b c : Int) ∣ b := by
    have : (g3 a b c : Int) ∣ ((Int.gcd a b : Nat) : Int) := Int.gcd_dvd_left ..
    exact Int.dvd_trans this (Int.gcd_dvd_right ..)
  rcases h0 with h | h
  · left
    intro z
    obtain ⟨k, hk⟩ := d1
    have := Int.ediv_mul_cancel (show (g3 a b c : Int) ∣ a from ⟨k, hk⟩)
    simp only at z
    rw [z, Int.zero_mul] at this
    exact h this.symm
  · right
    intro z
    obtain ⟨k, hk⟩ := d2
    have := Int.ediv_mul_cancel (show (g3 a b c : Int) ∣ b from ⟨k, hk⟩)
    simp only at z
    rw [z, Int.zero_mul] at this
    exact h this.symm
/-- what area tells of a field -/
theorem Sf.area {rs : List (C3 × Int)} (h : Sf rs) : ∃ a b : Int, arD (rs.map (·.1)) = P2 a b ∧ Fr (ar2 (rs.map (·.1)) / 2) a b ∧ 0 < a := by
  have hw : ∀ c ∈ rs.map (·.1), 0 < c.2.2 := fun c hc => by obtain ⟨r, hr, rfl⟩ := List.mem_map.mp hc; exact h.fk.w r hr
  obtain ⟨f, e, n, v⟩ := ar_val h.lens.1 hw
  have k := fr_of n
  rw [show vq f = ar2 (rs.map (·.1)) / 2 by rw [← v]; grind] at k
  refine ⟨_, _, e.trans k.1, k.2, k.2.topos ?_⟩
  have := ar2_pos h.fk.cv (by rw [List.length_map]; exact h.fk.three) hw
  grind
theorem Sf.wz {rs : List (C3 × Int)} (h : Sf rs) : ∀ r ∈ rs, Zb 87 r.1.2.2 := fun r hr => (h.fk.size (M := 43) (N := 76) (fun _ _ h => h) r hr).2.2
/-- the area, with sizes -/
theorem Sf.areaz {rs : List (C3 × Int)} (h : Sf rs) (hl : rs.length ≤ 10) : ∃ a b : Int, arD (rs.map (·.1)) = P2 a b ∧ Fr (ar2 (rs.map (·.1)) / 2) a b ∧ 0 < a ∧ Zb 300000 a ∧ Zb 2400 b := by
  have hw : ∀ c ∈ rs.map (·.1), 0 < c.2.2 := fun c hc => by obtain ⟨r, hr, rfl⟩ := List.mem_map.mp hc; exact h.fk.w r hr
  have hz : ∀ c ∈ rs.map (·.1), Zc 120 c ∧ Zb 87 c.2.2 := fun c hc => by obtain ⟨r, hr, rfl⟩ := List.mem_map.mp hc; exact ⟨h.z r hr, h.wz r hr⟩
  have hp := ar2_pos h.fk.cv (by rw [List.length_map]; exact h.fk.three) hw
  have hl2 : (rs.map (fun r : C3 × Int => r.1)).length ≤ 10 := by rw [List.length_map]; exact hl
  have h3 : 1 ≤ (rs.map (fun r : C3 × Int => r.1)).length := h.lens.1
  generalize (rs.map (fun r : C3 × Int => r.1)) = cs at *
  match cs, h3 with
  | c :: r, _ =>
    obtain ⟨f, e, n, v⟩ := ar_val (by simp) hw
    have v' := fan_val (hw c (by simp)) r (0, 1) (by decide) fun x hx => hw x (List.mem_cons_of_mem _ hx)
    have k := fr_of (f := fsum (fan c r)) v'.2
    have ev : vq (fsum (fan c r)) = ar2 (c :: r) / 2 := by
      rw [ar2_fan, show fsum (fan c r) = (fan c r).foldl fadd (0, 1) from rfl]
      have z : vq (0, 1) = 0 := by unfold vq; simp; grind
      have := v'.1
      rw [z] at this
      grind
    rw [ev] at k
    have z := fsum_z (m := 263) (k := 20000) (fs := fan c r) (fun f hf => by
      obtain ⟨p, hp, q, hq, rfl⟩ := fan_mem r f hf
      obtain ⟨⟨a1, a2, a3⟩, a4⟩ := hz c (by simp)
      obtain ⟨⟨b1, b2, b3⟩, b4⟩ := hz p (by simp [hp])
      obtain ⟨⟨c1, c2, c3⟩, c4⟩ := hz q (by simp [hq])
      have w1 := hw c (by simp)
      have w2 := hw p (by simp [hp])
      have w3 := hw q (by simp [hq])
      refine ⟨Int.mul_ne_zero (Int.mul_ne_zero (Int.mul_ne_zero (by decide) (by omega)) (by omega)) (by omega), (tw_z (n := 120) a1 a2 a3 b1 b2 b3 c1 c2 c3).mono (by decide), ?_⟩
      exact (Zb.mul (Zb.mul (Zb.mul (by decide : Zb 2 2) a4) b4) c4).mono (by decide)) (by rw [fan_len]; simp at hl2; omega) (by decide) (by decide)
    rw [fan_len] at z
    refine ⟨_, _, k.1, k.2, k.2.topos (by grind), (Zb.quot z.2).mono ?_, (Zb.quot z.1).mono ?_⟩ <;> (simp at hl2; omega)
/-- both parts of a field: what the law asks of them -/
theorem Sf.both {rs : List (C3 × Int)} (h : Sf rs) (hl : rs.length ≤ 9) {l : C3} (zl : Zl 43 76 l) (n m : Int) :
    (cutO rs l n = some rs ∧ cutO rs (ngC l) m = none) ∨ (cutO rs l n = none ∧ cutO rs (ngC l) m = some rs) ∨
    ∃ q1 q2, cutO rs l n = some q1 ∧ cutO rs (ngC l) m = some q2 ∧ Sf q1 ∧ Sf q2 ∧ q1.length ≤ rs.length + 1 ∧ q2.length ≤ rs.length + 1 ∧ ar2 (q1.map (·.1)) + ar2 (q2.map (·.1)) = ar2 (rs.map (·.1)) := by
  have nl := zl.2.2.2
  rcases cut_cases rs l with c | ⟨c, p⟩ | ⟨c, p⟩
  · refine .inl ⟨cutO_all c, cutO_non (fun r hr => by rw [ht_ng]; have := c r hr; omega) ?_⟩
    apply Classical.byContradiction
    intro k
    refine h.fk.flat nl fun r hr => ?_
    have := c r hr
    have : ¬ 0 < htC (ngC l) r.1 := fun z => k ⟨r, hr, z⟩
    rw [ht_ng] at this
    omega
  · exact .inr (.inl ⟨cutO_non c p, cutO_all fun r hr => by rw [ht_ng]; have := c r hr; omega⟩)
  · have c' : ∃ r ∈ rs, htC (ngC l) r.1 < 0 := p.imp fun r k => ⟨k.1, by rw [ht_ng]; omega⟩
    have p' : ∃ r ∈ rs, 0 < htC (ngC l) r.1 := c.imp fun r k => ⟨k.1, by rw [ht_ng]; omega⟩
    have k1 := h.cut zl (cutO_some (num := n) c p)
    have k2 := h.cut zl.ng (cutO_some (num := m) c' p')
    exact .inr (.inr ⟨_, _, cutO_some c p, cutO_some c' p', k1.1, k2.1, k1.2, k2.2, h.fk.parts nl c p⟩)
/-- two fractions that come to a third -/
theorem fr_sum {x y z : Rat} {a b c d e f : Int} (h1 : Fr x a b) (h2 : Fr y c d) (h3 : Fr z e f) (h : x + y = z) : frD (a * d + c * b) (b * d) = P2 e f := by
  have nb : b * d ≠ 0 := Int.mul_ne_zero (by have := h1.pos; omega) (by have := h2.pos; omega)
  have k := fr_of (f := (a * d + c * b, b * d)) nb
  have e1 : vq (a * d + c * b, b * d) = z := by
    unfold vq
    simp only [Rat.intCast_add, Rat.intCast_mul]
    rw [h1.val, h2.val, ← h]
    have p1 := q_ne h1.pos
    have p2 := q_ne h2.pos
    generalize (b : Rat) = B at *
    generalize (d : Rat) = F at *
    grind
  rw [e1] at k
  have u := k.2.uniq h3
  rw [show frD (a * d + c * b) (b * d) = frP (a * d + c * b, b * d) from rfl, k.1, u.1, u.2]
theorem fr_zero : Fr 0 0 1 := ⟨by decide, by decide, by simp⟩
theorem eq_cs (cs : List C3) : eqds (cs.map p3) (cs.map p3) = true := eqds_self ((Cl.lst fun d hd => by obtain ⟨c, _, rfl⟩ := List.mem_map.mp hd; exact Cl.p3 c).shp (by decide))
theorem eq_es (es : List Int) : eqds (es.map .int) (es.map .int) = true := eqds_self ((Cl.lst fun d hd => by obtain ⟨c, _, rfl⟩ := List.mem_map.mp hd; exact Cl.int c).shp (by decide))
theorem fld_shp (cs : List C3) (es : List Int) : shp (fldD cs es) = true := (Cl.fld cs es).shp (by decide)

/-! ### more of comprehensions: the environment and what is gathered go together -/
theorem compS_acc {tg : DG} {fe : DE} {vs : List Nat} {Q : List D → DEnv → Prop} {u : Tag Q} (P : List D → DEnv → Prop) (L : Nat) (hL : L ≤ sizeLine) : ∀ (ds acc : List D) (δ : DEnv), P acc δ → acc.length + ds.length = L →
    (∀ d ∈ ds, ∀ acc δ, acc.length < L → P acc δ → ∀ K : D → DEnv → Prop, (∀ y δ', P (acc ++ [y]) (wipeD δ' vs) → K y δ') → tg d δ fun δ1 => fe δ1 K xF) → (∀ ys δ', ys.length = L → P ys δ' → Q ys δ') → compS tg dYes fe vs Q u ds acc δ
  | [], acc, δ, h, e, _, hq => hq acc δ (by simpa using e) h
  | d :: ds, acc, δ, h, e, hs, hq => by
    simp only [List.length_cons] at e
    refine hs d (by simp) acc δ (by omega) h (fun y δ3 => acc.length < sizeLine ∧ compD tg dYes fe vs ds (acc ++ [y]) (wipeD δ3 vs) Q) fun y δ' hp => ?_
    refine ⟨by omega, ?_⟩
    exact compS_acc (u := ()) P L hL ds (acc ++ [y]) _ hp (by simp only [List.length_append, List.length_cons, List.length_nil]; omega) (fun d' hd' => hs d' (by simp [hd'])) hq
/-! ### each edge by the place of its end -/
theorem at_neg {α : Type} {xs : List α} {x : α} (h : xs.getLast? = some x) : atI xs (-1) = some x := by
  obtain ⟨t, rfl⟩ := List.getLast?_eq_some_iff.mp h
  unfold atI
  simp only [ixN, List.length_append, List.length_cons, List.length_nil]
  rw [if_neg (by decide), if_pos (by omega)]
  have e : (-1 + ((t.length + (0 + 1) : Nat) : Int)).toNat = t.length := by omega
  simp only [Option.bind_some, e]
  simp
theorem Ri.idx {α : Type} {P : α → α → Prop} {cs : List α} {z : α} (hz : cs.getLast? = some z) : Ri P cs ↔ ∀ (k : Nat) (a b : α), (z :: cs)[k]? = some a → cs[k]? = some b → P a b := by
  obtain ⟨t, rfl⟩ := List.getLast?_eq_some_iff.mp hz
  have e : Ri P (t ++ [z]) ↔ Ch P (z :: (t ++ [z])) := ⟨fun h => Ri.rot h, fun h => Ri.rot (a := [z]) (b := t) h⟩
  rw [e]
  constructor
  · intro h k a b h1 h2
    exact h.get h1 (by simpa using h2)
  · intro h
    exact Ch.of fun i a b h1 h2 => h i a b h1 (by simpa using h2)
/-! ### points amid corners -/
def sX (S : Int) (j : C3 → Int) : List (Int × C3) → Int
  | [] => 0
  | z :: t => z.1 * j z.2 * (S / z.2.2.2) + sX S j t
theorem sX_snoc (S : Int) (j : C3 → Int) (z : Int × C3) : ∀ a, sX S j (a ++ [z]) = sX S j a + z.1 * j z.2 * (S / z.2.2.2)
  | [] => by simp [sX]
  | y :: a => by simp only [List.cons_append, sX, sX_snoc S j z a]; omega
theorem amid_nn {S : Int} {u : C3} (hS : 0 < S) : ∀ zs : List (Int × C3), (∀ z ∈ zs, 0 ≤ z.1 ∧ 0 < z.2.2.2 ∧ z.2.2.2 ∣ S ∧ 0 ≤ lf u z.2) → 0 ≤ lf u (sX S (·.1) zs, sX S (·.2.1) zs, S * (zs.map (·.1)).sum)
  | [], _ => by simp [lf, sX]
  | z :: t, h => by
    have ih := amid_nn (u := u) hS t fun y hy => h y (List.mem_cons_of_mem _ hy)
    obtain ⟨h1, h2, h3, h4⟩ := h z (by simp)
    have e := Int.mul_ediv_cancel' h3
    have p : 0 < S / z.2.2.2 := by
      rcases Int.lt_trichotomy (S / z.2.2.2) 0 with k | k | k
      · have := Int.mul_neg_of_pos_of_neg h2 k; omega
      · rw [k] at e; omega
      · exact k
    have q := Int.mul_nonneg (Int.mul_nonneg h1 (Int.le_of_lt p)) h4
    have e2 : lf u (sX S (·.1) (z :: t), sX S (·.2.1) (z :: t), S * ((z :: t).map (·.1)).sum) = z.1 * (S / z.2.2.2) * lf u z.2 + lf u (sX S (·.1) t, sX S (·.2.1) t, S * (t.map (·.1)).sum) := by
      have e3 : z.1 * S = z.1 * (z.2.2.2 * (S / z.2.2.2)) := by rw [e]
      unfold lf
      simp only [sX, List.map_cons, List.sum_cons]
      generalize sX S (fun x => x.1) t = A
      generalize sX S (fun x => x.2.1) t = B
      generalize (t.map (fun x => x.1)).sum = C
      generalize S / z.2.2.2 = R at *
      grind
    rw [e2]
    omega
theorem nr3_lf {x y w : Int} (hw : 0 < w) {u : C3} (h : 0 ≤ lf u (x, y, w)) : 0 ≤ lf u (nr3 x y w) := by
  have g := by3_pos (x := x) (y := y) hw
  have a := Int.mul_ediv_cancel' (by3_dx x y w)
  have b := Int.mul_ediv_cancel' (by3_dy x y w)
  have c := Int.mul_ediv_cancel' (by3_dw x y w)
  refine nn_of_mul g ?_
  have e : by3 x y w * lf u (nr3 x y w) = u.1 * (by3 x y w * (x / by3 x y w)) + u.2.1 * (by3 x y w * (y / by3 x y w)) + u.2.2 * (by3 x y w * (w / by3 x y w)) := by
    unfold lf nr3
    generalize by3 x y w = g
    grind
  rw [e, a, b, c]
  exact h
theorem nr3_low {x y w : Int} (hw : 0 < w) : Low (nr3 x y w) := ⟨by3_w (by omega), by3_gcd (by omega)⟩
theorem sX_z {S : Int} {j : C3 → Int} {m : Nat} (hm : Zb m S) {k : Nat} : ∀ zs : List (Int × C3), (∀ z ∈ zs, Zb 3 z.1 ∧ Zb k (j z.2)) → Zb (3 + k + m + zs.length) (sX S j zs)
  | [], _ => by show (0 : Int).natAbs < _; exact Nat.two_pow_pos _
  | z :: t, h => by
    have ih := sX_z (S := S) (j := j) hm t fun y hy => h y (List.mem_cons_of_mem _ hy)
    have a := h z (by simp)
    have b := Zb.mul (Zb.mul a.1 a.2) (Zb.quot (s := z.2.2.2) hm)
    exact (Zb.addm (b.mono (Nat.le_add_right _ t.length)) ih).mono (by simp only [List.length_cons]; omega)
/-- the product of the last numbers -/
def prW : List C3 → Int
  | [] => 1
  | c :: t => prW t * c.2.2
theorem prW_snoc (c : C3) : ∀ a, prW (a ++ [c]) = prW a * c.2.2
  | [] => by simp [prW]
  | x :: a => by simp only [List.cons_append, prW, prW_snoc c a]; grind
theorem prW_pos : ∀ {cs : List C3}, (∀ c ∈ cs, 0 < c.2.2) → 0 < prW cs
  | [], _ => by decide
  | c :: t, h => Int.mul_pos (prW_pos fun x hx => h x (List.mem_cons_of_mem _ hx)) (h c (by simp))
theorem prW_dvd : ∀ {cs : List C3} {c : C3}, c ∈ cs → c.2.2 ∣ prW cs
  | x :: t, c, h => by
    rcases List.mem_cons.mp h with rfl | h
    · exact ⟨prW t, by simp only [prW]; rw [Int.mul_comm]⟩
    · obtain ⟨k, e⟩ := prW_dvd h
      exact ⟨k * x.2.2, by simp only [prW]; rw [e, Int.mul_assoc]⟩
theorem prW_z {k : Nat} : ∀ {cs : List C3}, (∀ c ∈ cs, Zb k c.2.2) → Zb (1 + cs.length * k) (prW cs)
  | [], _ => by show (1 : Int).natAbs < 2 ^ (1 + 0 * k); rw [Nat.zero_mul]; decide
  | c :: t, h => by
    have := Zb.mul (prW_z fun x hx => h x (List.mem_cons_of_mem _ hx)) (h c (by simp))
    exact this.mono (by simp only [List.length_cons, Nat.add_mul]; omega)
theorem sum_nn : ∀ {ws : List Int}, (∀ w ∈ ws, 0 ≤ w) → 0 ≤ ws.sum
  | [], _ => by decide
  | w :: t, h => by
    have := sum_nn fun x hx => h x (List.mem_cons_of_mem _ hx)
    have := h w (by simp)
    simp only [List.sum_cons]; omega
theorem sum_pos {ws : List Int} (h : ∀ w ∈ ws, 0 ≤ w) (k : ∃ w ∈ ws, 0 < w) : 0 < ws.sum := by
  induction ws with
  | nil => obtain ⟨w, hw, _⟩ := k; simp at hw
  | cons w t ih =>
    simp only [List.sum_cons]
    have p := h w (by simp)
    have q := sum_nn fun x hx => h x (List.mem_cons_of_mem _ hx)
    obtain ⟨v, hv, hp⟩ := k
    rcases List.mem_cons.mp hv with rfl | hv
    · omega
    · have := ih (fun x hx => h x (List.mem_cons_of_mem _ hx)) ⟨v, hv, hp⟩; omega
theorem sum_le : ∀ {ws : List Int}, (∀ w ∈ ws, w < 4) → ws.sum ≤ 3 * ws.length
  | [], _ => by decide
  | w :: t, h => by
    have := sum_le fun x hx => h x (List.mem_cons_of_mem _ hx)
    have := h w (by simp)
    simp only [List.sum_cons, List.length_cons]; omega

/-! ### lands -/
def gS (ss : List (Int × Int)) (i : Nat) : Int × Int := (ss[i]?).getD (0, 0)
theorem get_gS {ss : List (Int × Int)} {i : Nat} (h : i < ss.length) : ss[i]? = some (gS ss i) := by
  have e : ss[i]? = some ss[i] := List.getElem?_eq_getElem h
  rw [show gS ss i = ss[i] by unfold gS; rw [e]; rfl]
  exact e
theorem gS_mem {ss : List (Int × Int)} {i : Nat} (h : i < ss.length) : gS ss i ∈ ss := List.mem_of_getElem? (get_gS h)
theorem gS_ne {ss : List (Int × Int)} (hn : ss.Nodup) {i j : Nat} (hi : i < ss.length) (hj : j < ss.length) (hne : i ≠ j) : gS ss i ≠ gS ss j := fun e => by
  have a := get_gS hi
  have b := get_gS hj
  rw [e] at a
  have := (List.getElem?_inj hi hn).mp (a.trans b.symm)
  exact hne this
/-- the line between two spots -/
def btL (p q : Int × Int) : C3 := (axA p.1 q.1 / (g3 (axA p.1 q.1) (axA p.2 q.2) (axC p.1 p.2 0 q.1 q.2 0) : Int), axA p.2 q.2 / (g3 (axA p.1 q.1) (axA p.2 q.2) (axC p.1 p.2 0 q.1 q.2 0) : Int), axC p.1 p.2 0 q.1 q.2 0 / (g3 (axA p.1 q.1) (axA p.2 q.2) (axC p.1 p.2 0 q.1 q.2 0) : Int))
theorem ax_bt (p q : Int × Int) : axD p.1 p.2 0 q.1 q.2 0 = p3 (btL p q) := rfl
/-- the square of the way, times the square of the last number -/
abbrev ftC (c : C3) (p : Int × Int) : Int := ftI c.1 c.2.1 c.2.2 p.1 p.2
theorem bt_sign {p q : Int × Int} (h : p ≠ q) {c : C3} (hw : 0 < c.2.2) : (htC (btL p q) c).sign = (ftC c p - ftC c q).sign := by
  have : ¬ (p.1 = q.1 ∧ p.2 = q.2) := fun k => h (Prod.ext k.1 k.2)
  exact ax_sign this hw
theorem bt_le {p q : Int × Int} (h : p ≠ q) {c : C3} (hw : 0 < c.2.2) : htC (btL p q) c ≤ 0 ↔ ftC c p ≤ ftC c q := by
  have e := bt_sign h hw
  constructor
  · intro k
    have : (htC (btL p q) c).sign ≤ 0 := by
      rcases Int.lt_or_eq_of_le k with k | k
      · rw [Int.sign_eq_neg_one_of_neg k]; decide
      · rw [k]; decide
    rw [e] at this
    rcases Int.lt_or_le 0 (ftC c p - ftC c q) with o | o
    · rw [Int.sign_eq_one_of_pos o] at this; omega
    · omega
  · intro k
    have : (ftC c p - ftC c q).sign ≤ 0 := by
      rcases Int.lt_or_eq_of_le (show ftC c p - ftC c q ≤ 0 by omega) with k | k
      · rw [Int.sign_eq_neg_one_of_neg k]; decide
      · rw [k]; decide
    rw [← e] at this
    rcases Int.lt_or_le 0 (htC (btL p q) c) with o | o
    · rw [Int.sign_eq_one_of_pos o] at this; omega
    · exact o
theorem bt_lt {p q : Int × Int} (h : p ≠ q) {c : C3} (hw : 0 < c.2.2) : htC (btL p q) c < 0 ↔ ftC c p < ftC c q := by
  have e := bt_sign h hw
  constructor
  · intro k
    rw [Int.sign_eq_neg_one_of_neg k] at e
    rcases Int.lt_or_le (ftC c p - ftC c q) 0 with o | o
    · omega
    · rcases Int.lt_or_eq_of_le o with o | o
      · rw [Int.sign_eq_one_of_pos o] at e; omega
      · rw [← o] at e; exact absurd e (by decide)
  · intro k
    rw [Int.sign_eq_neg_one_of_neg (show ftC c p - ftC c q < 0 by omega)] at e
    rcases Int.lt_or_le (htC (btL p q) c) 0 with o | o
    · exact o
    · rcases Int.lt_or_eq_of_le o with o | o
      · rw [Int.sign_eq_one_of_pos o] at e; omega
      · rw [← o] at e; exact absurd e (by decide)
/-- what a spot lies from itself, from another one -/
theorem ft_self (p : Int × Int) : ftC (p.1, p.2, 1) p = 0 := by unfold ftC ftI; grind
theorem ft_other {p q : Int × Int} (h : p ≠ q) : 0 < ftC (p.1, p.2, 1) q := by
  have e : ftC (p.1, p.2, 1) q = (p.1 - q.1) * (p.1 - q.1) + (p.2 - q.2) * (p.2 - q.2) := by unfold ftC ftI; grind
  rw [e]
  have a := sq_nn (p.1 - q.1)
  have b := sq_nn (p.2 - q.2)
  by_cases c : p.1 = q.1
  · have : p.2 - q.2 ≠ 0 := fun z => h (Prod.ext c (by omega))
    have := sq_pos this
    omega
  · have := sq_pos (show p.1 - q.1 ≠ 0 by omega)
    omega
theorem bt_spot {p q : Int × Int} (h : p ≠ q) : htC (btL p q) (p.1, p.2, 1) < 0 := (bt_lt h (by exact (by decide : (0 : Int) < 1))).mpr (by rw [ft_self]; exact ft_other h)
theorem bt_zl {p q : Int × Int} (h : p ≠ q) (h1 : Zb 100 p.1) (h2 : Zb 100 p.2) (h3 : Zb 100 q.1) (h4 : Zb 100 q.2) : Zl 102 204 (btL p q) := by
  have : ¬ (p.1 = q.1 ∧ p.2 = q.2) := fun k => h (Prod.ext k.1 k.2)
  have zA : ∀ {a c : Int}, Zb 100 a → Zb 100 c → Zb 102 (axA a c) := fun {a c} ha hc => by
    have := Zb.subm hc ha
    show (2 * (c - a)).natAbs < 2 ^ 102
    have : (c - a).natAbs < 2 ^ 101 := this
    omega
  refine ln_zl (ax_ne this) (zA h1 h3) (zA h2 h4) ?_
  unfold axC
  have a := Zb.addm (h3.mul h3) (h4.mul h4)
  have b := Zb.subm a ((h1.mul h1).mono (show 100 + 100 ≤ 201 by decide))
  have c := Zb.subm b ((h2.mul h2).mono (show 100 + 100 ≤ 202 by decide))
  rw [Int.sub_zero, Int.add_zero]
  exact c.mono (by decide)
/-- a box by its points -/
theorem box_in {x y u v : Int} (h1 : x < u) (h2 : y < v) (q : C3) : InC ((bxRw x y u v).map (·.1)) q ↔ x * q.2.2 ≤ q.1 ∧ q.1 ≤ u * q.2.2 ∧ y * q.2.2 ≤ q.2.1 ∧ q.2.1 ≤ v * q.2.2 := by
  have d1 : dt (x, y, 1) (u, y, 1) q = (u - x) * (q.2.1 - y * q.2.2) := by unfold dt twI; grind
  have d2 : dt (u, y, 1) (u, v, 1) q = (v - y) * (u * q.2.2 - q.1) := by unfold dt twI; grind
  have d3 : dt (u, v, 1) (x, v, 1) q = (u - x) * (v * q.2.2 - q.2.1) := by unfold dt twI; grind
  have d4 : dt (x, v, 1) (x, y, 1) q = (v - y) * (q.1 - x * q.2.2) := by unfold dt twI; grind
  have e : InC ((bxRw x y u v).map (·.1)) q ↔ 0 ≤ dt (x, y, 1) (u, y, 1) q ∧ 0 ≤ dt (u, y, 1) (u, v, 1) q ∧ 0 ≤ dt (u, v, 1) (x, v, 1) q ∧ 0 ≤ dt (x, v, 1) (x, y, 1) q := by
    simp [InC, Ri, Ch, bxRw]
  rw [e, d1, d2, d3, d4]
  have m : ∀ {k z : Int}, 0 < k → (0 ≤ k * z ↔ 0 ≤ z) := fun {k z} hk => ⟨nn_of_mul hk, fun h => Int.mul_nonneg (by omega) h⟩
  rw [m (by omega), m (by omega), m (by omega), m (by omega)]
  omega
/-- the field of a spot, behind the first k others -/
def landK (x y u v : Int) (ss : List (Int × Int)) (i : Nat) : Nat → Option (List (C3 × Int))
  | 0 => some (bxRw x y u v)
  | k + 1 => if k = i then landK x y u v ss i k else (landK x y u v ss i k).bind fun rs => cutO rs (btL (gS ss i) (gS ss k)) k
/-- which lines a land's edges are called by -/
def nmL (x y u v : Int) (ss : List (Int × Int)) (i : Nat) (e : Int) (L : C3) : Prop :=
  (e = -1 ∧ L = (0, 1, y)) ∨ (e = -2 ∧ L = (1, 0, u)) ∨ (e = -3 ∧ L = (0, 1, v)) ∨ (e = -4 ∧ L = (1, 0, x)) ∨ ∃ j : Nat, e = j ∧ j < ss.length ∧ j ≠ i ∧ L = btL (gS ss i) (gS ss j)
structure LdOk (x y u v : Int) (ss : List (Int × Int)) : Prop where
  bx : BxOk x y u v ss
  zx : Zb 100 x
  zy : Zb 100 y
  zu : Zb 100 u
  zv : Zb 100 v
  zs : ∀ p ∈ ss, Zb 100 p.1 ∧ Zb 100 p.2
theorem nmL_zl {x y u v : Int} {ss : List (Int × Int)} {i : Nat} (h : LdOk x y u v ss) (hi : i < ss.length) : ∀ e L, nmL x y u v ss i e L → Zl 102 204 L := by
  rintro e L (⟨_, rfl⟩ | ⟨_, rfl⟩ | ⟨_, rfl⟩ | ⟨_, rfl⟩ | ⟨j, _, hj, hne, rfl⟩)
  · exact Zl.sm (by decide) (by decide) (h.zy.mono (by decide)) (by decide)
  · exact Zl.sm (by decide) (by decide) (h.zu.mono (by decide)) (by decide)
  · exact Zl.sm (by decide) (by decide) (h.zv.mono (by decide)) (by decide)
  · exact Zl.sm (by decide) (by decide) (h.zx.mono (by decide)) (by decide)
  · have a := h.zs _ (gS_mem hi)
    have b := h.zs _ (gS_mem hj)
    exact bt_zl (gS_ne h.bx.2.2.2.2.1 hi hj (Ne.symm hne)) a.1 a.2 b.1 b.2
theorem box_lead {x y u v : Int} (h1 : x < u) (h2 : y < v) : Lead (bxRw x y u v) := by
  intro r t e s hs
  simp only [bxRw, List.cons.injEq] at e
  obtain ⟨rfl, rfl⟩ := e
  simp only [List.mem_cons, List.not_mem_nil, or_false] at hs
  rcases hs with rfl | rfl | rfl
  · rw [ah_iff]; left; show x * 1 < u * 1; omega
  · rw [ah_iff]; left; show x * 1 < u * 1; omega
  · rw [ah_iff]; right; exact ⟨rfl, show y * 1 < v * 1 by omega⟩
theorem landK_ok {x y u v : Int} {ss : List (Int × Int)} (h : LdOk x y u v ss) {i : Nat} (hi : i < ss.length) : ∀ k, k ≤ ss.length → ∃ rs, landK x y u v ss i k = some rs ∧ Fk (nmL x y u v ss i) rs ∧ Lead rs ∧ rs.length ≤ 4 + k ∧
    ∀ q, InC (rs.map (·.1)) q ↔ InC ((bxRw x y u v).map (·.1)) q ∧ ∀ j, j < k → j ≠ i → htC (btL (gS ss i) (gS ss j)) q ≤ 0
  | 0, _ => ⟨_, rfl, box_Fk h.bx.1 h.bx.2.1 (.inl ⟨rfl, rfl⟩) (.inr (.inl ⟨rfl, rfl⟩)) (.inr (.inr (.inl ⟨rfl, rfl⟩))) (.inr (.inr (.inr (.inl ⟨rfl, rfl⟩)))), box_lead h.bx.1 h.bx.2.1, by simp, fun q => ⟨fun k => ⟨k, fun j hj => by omega⟩, fun k => k.1⟩⟩
  | k + 1, hk => by
    obtain ⟨rs, e, fk, ld, ln, ins⟩ := landK_ok h hi k (by omega)
    unfold landK
    by_cases c : k = i
    · rw [if_pos c]
      refine ⟨rs, e, fk, ld, by omega, fun q => (ins q).trans (and_congr_right fun _ => ⟨fun z j hj hne => ?_, fun z j hj hne => z j (by omega) hne⟩)⟩
      rcases Nat.lt_or_eq_of_le (Nat.le_of_lt_succ hj) with o | o
      · exact z j o hne
      · exact absurd (o.trans c) hne
    · rw [if_neg c, e]
      have hne := gS_ne h.bx.2.2.2.2.1 hi (show k < ss.length by omega) (Ne.symm c)
      have nm : nmL x y u v ss i k (btL (gS ss i) (gS ss k)) := .inr (.inr (.inr (.inr ⟨k, rfl, by omega, c, rfl⟩)))
      have own : InC (rs.map (·.1)) ((gS ss i).1, (gS ss i).2, 1) := by
        rw [ins]
        refine ⟨?_, fun j hj hji => Int.le_of_lt (bt_spot (gS_ne h.bx.2.2.2.2.1 hi (by omega) (Ne.symm hji)))⟩
        rw [box_in h.bx.1 h.bx.2.1]
        have := h.bx.2.2.2.2.2 _ (gS_mem hi)
        unfold inB at this
        simp only [Bool.and_eq_true, decide_eq_true_eq] at this
        simp only
        omega
      cases ec : G.cutO rs (btL (gS ss i) (gS ss k)) k with
      | none =>
        have a := (fk.none ec).2 _ own
        have b := bt_spot hne
        omega
      | some qs =>
        have r := fk.cutO (num := (k : Int)) nm ec
        refine ⟨qs, ec, r.1, r.2.1 ld, by have := r.2.2.1; omega, fun q => ?_⟩
        rw [r.2.2.2 q, ins q]
        constructor
        · rintro ⟨⟨z1, z2⟩, z3⟩
          refine ⟨z1, fun j hj hji => ?_⟩
          rcases Nat.lt_or_eq_of_le (Nat.le_of_lt_succ hj) with o | o
          · exact z2 j o hji
          · rw [o]; exact z3
        · rintro ⟨z1, z2⟩
          exact ⟨⟨z1, fun j hj hji => z2 j (by omega) hji⟩, z2 k (by omega) c⟩
/-- the land of a spot -/
def landR (x y u v : Int) (ss : List (Int × Int)) (i : Nat) : List (C3 × Int) := (landK x y u v ss i ss.length).getD []
theorem landR_ok {x y u v : Int} {ss : List (Int × Int)} (h : LdOk x y u v ss) {i : Nat} (hi : i < ss.length) : landK x y u v ss i ss.length = some (landR x y u v ss i) ∧ Fk (nmL x y u v ss i) (landR x y u v ss i) ∧ Lead (landR x y u v ss i) ∧ (landR x y u v ss i).length ≤ 4 + ss.length ∧
    ∀ q, InC ((landR x y u v ss i).map (·.1)) q ↔ InC ((bxRw x y u v).map (·.1)) q ∧ ∀ j, j < ss.length → j ≠ i → htC (btL (gS ss i) (gS ss j)) q ≤ 0 := by
  obtain ⟨rs, e, r⟩ := landK_ok h hi ss.length (Nat.le_refl _)
  have : landR x y u v ss i = rs := by unfold landR; rw [e]; rfl
  rw [this]
  exact ⟨e, r⟩
theorem landR_z {x y u v : Int} {ss : List (Int × Int)} (h : LdOk x y u v ss) {i : Nat} (hi : i < ss.length) : ∀ c ∈ (landR x y u v ss i).map (·.1), Zc 307 c ∧ 0 < c.2.2 ∧ Zb 205 c.2.2 := fun c hc => by
  obtain ⟨r, hr, rfl⟩ := List.mem_map.mp hc
  have fk := (landR_ok h hi).2.1
  have := fk.size (nmL_zl h hi) r hr
  exact ⟨⟨this.1, this.2.1, this.2.2.mono (by decide)⟩, fk.w r hr, this.2.2⟩
/-- which points lie in a land -/
theorem land_in {x y u v : Int} {ss : List (Int × Int)} (h : LdOk x y u v ss) {i : Nat} (hi : i < ss.length) {q : C3} (hw : 0 < q.2.2) : InC ((landR x y u v ss i).map (·.1)) q ↔ InC ((bxRw x y u v).map (·.1)) q ∧ ∀ j, j < ss.length → ftC q (gS ss i) ≤ ftC q (gS ss j) := by
  rw [(landR_ok h hi).2.2.2.2 q]
  refine and_congr_right fun _ => ⟨fun z j hj => ?_, fun z j hj hji => ?_⟩
  · by_cases c : j = i
    · rw [c]; exact Int.le_refl _
    · exact (bt_le (gS_ne h.bx.2.2.2.2.1 hi hj (Ne.symm c)) hw).mp (z j hj c)
  · exact (bt_le (gS_ne h.bx.2.2.2.2.1 hi hj (Ne.symm hji)) hw).mpr (z j hj)

/-! ### areas of fields of any size -/
abbrev nmA (M N : Nat) (_ : Int) (L : C3) : Prop := Zl M N L
theorem Fk.areaz {M N K : Nat} {rs : List (C3 × Int)} (h : Fk (nmA M N) rs) (hl : rs.length ≤ K + 1) (hK : K ≤ 16) (hs : K * (3 * (2 * M + 1) + 2) ≤ 4000) (hn : M + N + 1 ≤ 600) (hMN : M ≤ N) : ∃ a b : Int, arD (rs.map (·.1)) = P2 a b ∧ Fr (ar2 (rs.map (·.1)) / 2) a b ∧ 0 < a ∧ Zb 600000 a ∧ Zb 4001 b := by
  have hw : ∀ c ∈ rs.map (·.1), 0 < c.2.2 := fun c hc => by obtain ⟨r, hr, rfl⟩ := List.mem_map.mp hc; exact h.w r hr
  have hz : ∀ c ∈ rs.map (·.1), Zc 600 c ∧ Zb (2 * M + 1) c.2.2 := fun c hc => by
    obtain ⟨r, hr, rfl⟩ := List.mem_map.mp hc
    have := h.size (fun _ _ k => k) r hr
    exact ⟨⟨this.1.mono hn, this.2.1.mono hn, this.2.2.mono (by omega)⟩, this.2.2⟩
  have hp := ar2_pos h.cv (by rw [List.length_map]; exact h.three) hw
  have hl2 : (rs.map (fun r : C3 × Int => r.1)).length ≤ K + 1 := by rw [List.length_map]; exact hl
  have h3 : 1 ≤ (rs.map (fun r : C3 × Int => r.1)).length := by rw [List.length_map]; have := h.three; omega
  generalize (rs.map (fun r : C3 × Int => r.1)) = cs at *
  match cs, h3 with
  | c :: r, _ =>
    have v' := fan_val (hw c (by simp)) r (0, 1) (by decide) fun x hx => hw x (List.mem_cons_of_mem _ hx)
    have k := fr_of (f := fsum (fan c r)) v'.2
    have ev : vq (fsum (fan c r)) = ar2 (c :: r) / 2 := by
      rw [ar2_fan, show fsum (fan c r) = (fan c r).foldl fadd (0, 1) from rfl]
      have z : vq (0, 1) = 0 := by unfold vq; simp; grind
      have := v'.1
      rw [z] at this
      grind
    rw [ev] at k
    have hr : r.length ≤ K := by simp at hl2; omega
    have hmul : (fan c r).length * (3 * (2 * M + 1) + 2) ≤ K * (3 * (2 * M + 1) + 2) := Nat.mul_le_mul_right _ (by rw [fan_len]; omega)
    have hm2 : 3 * (2 * M + 1) + 2 ≤ 2000 := by omega
    have z := fsum_z (m := 3 * (2 * M + 1) + 2) (k := 20000) (fs := fan c r) (fun f hf => by
      obtain ⟨p, hp, q, hq, rfl⟩ := fan_mem r f hf
      obtain ⟨⟨a1, a2, a3⟩, a4⟩ := hz c (by simp)
      obtain ⟨⟨b1, b2, b3⟩, b4⟩ := hz p (by simp [hp])
      obtain ⟨⟨c1, c2, c3⟩, c4⟩ := hz q (by simp [hq])
      have w1 := hw c (by simp)
      have w2 := hw p (by simp [hp])
      have w3 := hw q (by simp [hq])
      refine ⟨Int.mul_ne_zero (Int.mul_ne_zero (Int.mul_ne_zero (by decide) (by omega)) (by omega)) (by omega), (tw_z (n := 600) a1 a2 a3 b1 b2 b3 c1 c2 c3).mono (by decide), ?_⟩
      exact (Zb.mul (Zb.mul (Zb.mul (by decide : Zb 2 2) a4) b4) c4).mono (by omega)) (by omega) hm2 (by decide)
    have hfl : (fan c r).length ≤ 16 := by rw [fan_len]; omega
    refine ⟨_, _, k.1, k.2, k.2.topos (by grind), (Zb.quot z.2).mono (by omega), (Zb.quot z.1).mono (by omega)⟩
/-- two fractions, one less the other -/
theorem fr_less {x y z : Rat} {a b c d e f : Int} (h1 : Fr x a b) (h2 : Fr y c d) (h3 : Fr z e f) (h : x - y = z) : frD (a * d - c * b) (b * d) = P2 e f := by
  have nb : b * d ≠ 0 := Int.mul_ne_zero (by have := h1.pos; omega) (by have := h2.pos; omega)
  have k := fr_of (f := (a * d - c * b, b * d)) nb
  have e1 : vq (a * d - c * b, b * d) = z := by
    unfold vq
    simp only [Rat.intCast_sub, Rat.intCast_mul]
    rw [h1.val, h2.val, ← h]
    have p1 := q_ne h1.pos
    have p2 := q_ne h2.pos
    generalize (b : Rat) = B at *
    generalize (d : Rat) = F at *
    grind
  rw [e1] at k
  have u := k.2.uniq h3
  rw [show frD (a * d - c * b) (b * d) = frP (a * d - c * b, b * d) from rfl, k.1, u.1, u.2]
/-! ### sizes of lands by those of spots -/
theorem bt_zlN {N : Nat} {p q : Int × Int} (h : p ≠ q) (h1 : Zb N p.1) (h2 : Zb N p.2) (h3 : Zb N q.1) (h4 : Zb N q.2) : Zl (N + 2) (2 * N + 4) (btL p q) := by
  have : ¬ (p.1 = q.1 ∧ p.2 = q.2) := fun k => h (Prod.ext k.1 k.2)
  have zA : ∀ {a c : Int}, Zb N a → Zb N c → Zb (N + 2) (axA a c) := fun {a c} ha hc => by
    have e := Zb.subm hc ha
    show (2 * (c - a)).natAbs < 2 ^ (N + 1 + 1)
    have : (c - a).natAbs < 2 ^ (N + 1) := e
    rw [Nat.pow_succ]
    omega
  refine ln_zl (ax_ne this) (zA h1 h3) (zA h2 h4) ?_
  unfold axC
  have a := Zb.addm (h3.mul h3) (h4.mul h4)
  have b := Zb.subm a ((h1.mul h1).mono (show N + N ≤ N + N + 1 by omega))
  have c := Zb.subm b ((h2.mul h2).mono (show N + N ≤ N + N + 1 + 1 by omega))
  rw [Int.sub_zero, Int.add_zero]
  exact c.mono (by omega)
structure LdN (N : Nat) (x y u v : Int) (ss : List (Int × Int)) : Prop where
  ok : LdOk x y u v ss
  zx : Zb N x
  zy : Zb N y
  zu : Zb N u
  zv : Zb N v
  zs : ∀ p ∈ ss, Zb N p.1 ∧ Zb N p.2
theorem nmL_zlN {N : Nat} {x y u v : Int} {ss : List (Int × Int)} {i : Nat} (h : LdN N x y u v ss) (hi : i < ss.length) : ∀ e L, nmL x y u v ss i e L → nmA (N + 2) (2 * N + 4) e L := by
  have one : ∀ {n : Nat}, Zb (n + 2) 1 := fun {n} => by show (1 : Nat) < 2 ^ (n + 2); rw [Nat.pow_add]; have := Nat.two_pow_pos n; omega
  have zer : ∀ {n : Nat}, Zb n 0 := fun {n} => by show (0 : Nat) < 2 ^ n; exact Nat.two_pow_pos n
  rintro e L (⟨_, rfl⟩ | ⟨_, rfl⟩ | ⟨_, rfl⟩ | ⟨_, rfl⟩ | ⟨j, _, hj, hne, rfl⟩)
  · exact Zl.sm zer one (h.zy.mono (by omega)) (by decide)
  · exact Zl.sm one zer (h.zu.mono (by omega)) (by decide)
  · exact Zl.sm zer one (h.zv.mono (by omega)) (by decide)
  · exact Zl.sm one zer (h.zx.mono (by omega)) (by decide)
  · have a := h.zs _ (gS_mem hi)
    have b := h.zs _ (gS_mem hj)
    exact bt_zlN (gS_ne h.ok.bx.2.2.2.2.1 hi hj (Ne.symm hne)) a.1 a.2 b.1 b.2
theorem landR_N {N : Nat} {x y u v : Int} {ss : List (Int × Int)} (h : LdN N x y u v ss) {i : Nat} (hi : i < ss.length) : Fk (nmA (N + 2) (2 * N + 4)) (landR x y u v ss i) := (landR_ok h.ok hi).2.1.mono (nmL_zlN h hi)
/-! ### one spot more -/
theorem gS_app {ss : List (Int × Int)} {i : Nat} (h : i < ss.length) (t : List (Int × Int)) : gS (ss ++ t) i = gS ss i := by
  unfold gS; rw [List.getElem?_append_left h]
theorem gS_last (ss : List (Int × Int)) (p : Int × Int) : gS (ss ++ [p]) ss.length = p := by
  unfold gS; rw [List.getElem?_append_right (Nat.le_refl _)]; simp
theorem landK_app {x y u v : Int} {ss t : List (Int × Int)} {i : Nat} (hi : i < ss.length) : ∀ k, k ≤ ss.length → landK x y u v (ss ++ t) i k = landK x y u v ss i k
  | 0, _ => rfl
  | k + 1, hk => by
    unfold landK
    rw [landK_app hi k (by omega), gS_app hi, gS_app (by omega)]
theorem bt_swap (p q : Int × Int) : btL q p = ngC (btL p q) := by
  have e := ax_swap p.1 p.2 q.1 q.2
  rw [ax_bt q p] at e
  have e2 : p3 (ngC (btL p q)) = P3 (-(axA p.1 q.1 / (g3 (axA p.1 q.1) (axA p.2 q.2) (axC p.1 p.2 0 q.1 q.2 0) : Int))) (-(axA p.2 q.2 / (g3 (axA p.1 q.1) (axA p.2 q.2) (axC p.1 p.2 0 q.1 q.2 0) : Int))) (-(axC p.1 p.2 0 q.1 q.2 0 / (g3 (axA p.1 q.1) (axA p.2 q.2) (axC p.1 p.2 0 q.1 q.2 0) : Int))) := by
    unfold ngC btL
    simp only [Int.zero_sub]
  rw [← e2] at e
  simp only [D.tup.injEq, List.cons.injEq, D.int.injEq, and_true] at e
  exact Prod.ext e.1 (Prod.ext e.2.1 e.2.2)
theorem landR_more {x y u v : Int} {ss : List (Int × Int)} {p : Int × Int} {i : Nat} (hi : i < ss.length) (h : LdOk x y u v ss) (h' : LdOk x y u v (ss ++ [p])) : cutO (landR x y u v ss i) (btL (gS ss i) p) ss.length = some (landR x y u v (ss ++ [p]) i) := by
  have a := (landR_ok h hi).1
  have b := (landR_ok h' (i := i) (by rw [List.length_append]; omega)).1
  rw [show (ss ++ [p]).length = ss.length + 1 by simp] at b
  have c : landK x y u v (ss ++ [p]) i (ss.length + 1) = (landK x y u v (ss ++ [p]) i ss.length).bind fun rs => cutO rs (btL (gS (ss ++ [p]) i) (gS (ss ++ [p]) ss.length)) ss.length := by
    show (if ss.length = i then _ else _) = _
    rw [if_neg (by omega)]
  rw [c, landK_app hi _ (Nat.le_refl _), a, gS_app hi, gS_last] at b
  exact b
/-- what one spot more takes from a land -/
theorem land_takes {N : Nat} {x y u v : Int} {ss : List (Int × Int)} {p : Int × Int} {i : Nat} (hi : i < ss.length) (h : LdN N x y u v ss) (h' : LdN N x y u v (ss ++ [p])) (num : Int) :
    (landR x y u v (ss ++ [p]) i = landR x y u v ss i ∧ cutO (landR x y u v ss i) (btL p (gS ss i)) num = none) ∨
    ∃ g, cutO (landR x y u v ss i) (btL p (gS ss i)) num = some g ∧ Fk (nmA (N + 2) (2 * N + 4)) g ∧ g.length ≤ 5 + ss.length ∧ 0 < ar2 (g.map (·.1)) ∧ ar2 ((landR x y u v (ss ++ [p]) i).map (·.1)) + ar2 (g.map (·.1)) = ar2 ((landR x y u v ss i).map (·.1)) := by
  have lo := landR_ok h.ok hi
  have fk := landR_N h hi
  have hm := landR_more hi h.ok h'.ok
  have hp : gS ss i ≠ p := by
    have := gS_ne h'.ok.bx.2.2.2.2.1 (i := i) (j := ss.length) (by rw [List.length_append]; omega) (by rw [List.length_append]; simp) (by omega)
    rwa [gS_app hi, gS_last] at this
  have zi := h.zs _ (gS_mem hi)
  have zp := h'.zs p (by simp)
  have zl := bt_zlN hp zi.1 zi.2 zp.1 zp.2
  have nl := zl.2.2.2
  rw [bt_swap (gS ss i) p]
  rcases cut_cases (landR x y u v ss i) (btL (gS ss i) p) with c | ⟨c, q⟩ | ⟨c, q⟩
  · rw [cutO_all c] at hm
    refine .inl ⟨(Option.some.inj hm).symm, cutO_non (fun r hr => by rw [ht_ng]; have := c r hr; omega) ?_⟩
    apply Classical.byContradiction
    intro k
    refine fk.flat nl fun r hr => ?_
    have := c r hr
    have : ¬ 0 < htC (ngC (btL (gS ss i) p)) r.1 := fun z => k ⟨r, hr, z⟩
    rw [ht_ng] at this
    omega
  · rw [cutO_non c q] at hm; cases hm
  · rw [cutO_some c q] at hm
    have hm := Option.some.inj hm
    have c' : ∃ r ∈ landR x y u v ss i, htC (ngC (btL (gS ss i) p)) r.1 < 0 := q.imp fun r k => ⟨k.1, by rw [ht_ng]; omega⟩
    have p' : ∃ r ∈ landR x y u v ss i, 0 < htC (ngC (btL (gS ss i) p)) r.1 := c.imp fun r k => ⟨k.1, by rw [ht_ng]; omega⟩
    have k2 := fk.cutY (num := num) zl.ng c' p'
    refine .inr ⟨_, cutO_some c' p', k2.1, by have := k2.2.2; have := lo.2.2.2.1; omega, ar2_pos k2.1.cv (by rw [List.length_map]; exact k2.1.three) (fun c hc => by obtain ⟨r, hr, rfl⟩ := List.mem_map.mp hc; exact k2.1.w r hr), ?_⟩
    rw [← hm]
    exact fk.parts nl c q
/-- it takes from one at least -/
theorem land_loses {x y u v : Int} {ss : List (Int × Int)} {p : Int × Int} (h : LdOk x y u v ss) (h' : LdOk x y u v (ss ++ [p])) : ∃ i, i < ss.length ∧ ∀ num, cutO (landR x y u v ss i) (btL p (gS ss i)) num ≠ none := by
  have hne : ss.map (ftC (p.1, p.2, 1)) ≠ [] := fun z => h.bx.2.2.1 (List.map_eq_nil_iff.mp z)
  obtain ⟨s, hs, es⟩ := List.mem_map.mp (mnI_mem _ hne)
  obtain ⟨i, hi, ei⟩ := List.mem_iff_getElem.mp hs
  have gi : gS ss i = s := by unfold gS; rw [List.getElem?_eq_getElem hi]; exact ei
  refine ⟨i, hi, fun num e => ?_⟩
  have lo := landR_ok h hi
  have hp : p ≠ gS ss i := by
    have := gS_ne h'.bx.2.2.2.2.1 (i := i) (j := ss.length) (by rw [List.length_append]; omega) (by rw [List.length_append]; simp) (by omega)
    rw [gS_app hi, gS_last] at this
    exact Ne.symm this
  have q := (lo.2.1.none e).2 (p.1, p.2, 1) (by
    rw [land_in h hi (by exact (by decide : (0 : Int) < 1)), box_in h.bx.1 h.bx.2.1]
    refine ⟨?_, fun j hj => ?_⟩
    · have := h'.bx.2.2.2.2.2 p (by simp)
      unfold inB at this
      simp only [Bool.and_eq_true, decide_eq_true_eq] at this
      simp only
      omega
    · rw [gi, es]
      exact mnI_le _ _ (List.mem_map_of_mem (gS_mem hj)))
  have := bt_spot hp
  omega
/-! ### what == says of corners -/
theorem eq_p3 (c d : C3) : eqd (p3 c) (p3 d) = decide (c = d) := by
  rw [eqd_tup, eqds_cons, eqds_cons, eqds_cons, eqds_nil, eqd_int, eqd_int, eqd_int, Bool.and_true]
  rw [Bool.eq_iff_iff]
  simp only [Bool.and_eq_true, decide_eq_true_eq]
  exact ⟨fun h => Prod.ext h.1 (Prod.ext h.2.1 h.2.2), fun h => by rw [h]; exact ⟨rfl, rfl, rfl⟩⟩
theorem eq_corners : ∀ {cs ds : List C3}, eqds (cs.map p3) (ds.map p3) = true → cs = ds
  | [], [], _ => rfl
  | [], d :: ds, h => by rw [List.map_cons, List.map_nil, eqds_nc] at h; cases h
  | c :: cs, [], h => by rw [List.map_cons, List.map_nil, eqds_cn] at h; cases h
  | c :: cs, d :: ds, h => by
    rw [List.map_cons, List.map_cons, eqds_cons, eq_p3, Bool.and_eq_true, decide_eq_true_iff] at h
    rw [h.1, eq_corners h.2]

/-! ### cut by many lines, maybe away -/
def cutsK (P : List (C3 × Int)) (L : Nat → C3) (i : Nat) : Nat → Option (List (C3 × Int))
  | 0 => some P
  | k + 1 => if k = i then cutsK P L i k else (cutsK P L i k).bind fun rs => cutO rs (L k) k
theorem cutsK_ok {nm : Int → C3 → Prop} {P : List (C3 × Int)} {L : Nat → C3} {i n : Nat} (hP : Fk nm P) (hl : ∀ j : Nat, j < n → j ≠ i → nm j (L j)) : ∀ k, k ≤ n → ∀ rs, cutsK P L i k = some rs → Fk nm rs ∧ rs.length ≤ P.length + k ∧
    ∀ q, InC (rs.map (·.1)) q ↔ InC (P.map (·.1)) q ∧ ∀ j, j < k → j ≠ i → htC (L j) q ≤ 0
  | 0, _, rs, e => by
    cases e
    exact ⟨hP, by omega, fun q => ⟨fun k => ⟨k, fun j hj => by omega⟩, fun k => k.1⟩⟩
  | k + 1, hk, rs, e => by
    unfold cutsK at e
    by_cases c : k = i
    · rw [if_pos c] at e
      obtain ⟨a, b, d⟩ := cutsK_ok hP hl k (by omega) rs e
      refine ⟨a, by omega, fun q => (d q).trans (and_congr_right fun _ => ⟨fun z j hj hne => ?_, fun z j hj hne => z j (by omega) hne⟩)⟩
      rcases Nat.lt_or_eq_of_le (Nat.le_of_lt_succ hj) with o | o
      · exact z j o hne
      · exact absurd (o.trans c) hne
    · rw [if_neg c] at e
      obtain ⟨qs, e1, e2⟩ := Option.bind_eq_some_iff.mp e
      obtain ⟨a, b, d⟩ := cutsK_ok hP hl k (by omega) qs e1
      have r := a.cutO (num := (k : Int)) (hl k (by omega) c) e2
      refine ⟨r.1, by have := r.2.2.1; omega, fun q => ?_⟩
      rw [r.2.2.2 q, d q]
      constructor
      · rintro ⟨⟨z1, z2⟩, z3⟩
        refine ⟨z1, fun j hj hji => ?_⟩
        rcases Nat.lt_or_eq_of_le (Nat.le_of_lt_succ hj) with o | o
        · exact z2 j o hji
        · rw [o]; exact z3
      · rintro ⟨z1, z2⟩
        exact ⟨⟨z1, fun j hj hji => z2 j (by omega) hji⟩, z2 k (by omega) c⟩
theorem cutsK_some {nm nm' : Int → C3 → Prop} {P R : List (C3 × Int)} {L : Nat → C3} {i n : Nat} (hP : Fk nm P) (hl : ∀ j : Nat, j < n → j ≠ i → nm j (L j) ∧ ((L j).1 ≠ 0 ∨ (L j).2.1 ≠ 0)) (fR : Fk nm' R)
    (hin : ∀ x, 0 < x.2.2 → InC (R.map (·.1)) x → InC (P.map (·.1)) x ∧ ∀ j, j < n → j ≠ i → htC (L j) x ≤ 0) : ∀ k, k ≤ n → ∃ rs, cutsK P L i k = some rs
  | 0, _ => ⟨P, rfl⟩
  | k + 1, hk => by
    obtain ⟨rs, e⟩ := cutsK_some hP hl fR hin k (by omega)
    unfold cutsK
    by_cases c : k = i
    · rw [if_pos c]; exact ⟨rs, e⟩
    · rw [if_neg c, e]
      have ok := cutsK_ok hP (fun j hj hji => (hl j hj hji).1) k (by omega) rs e
      cases ec : G.cutO rs (L k) k with
      | some qs => exact ⟨qs, ec⟩
      | none =>
        exfalso
        refine fR.flat (hl k (by omega) c).2 fun r hr => ?_
        have w := fR.w r hr
        have h1 := hin r.1 w (fR.corner hr)
        have h2 := (ok.1.none ec).2 r.1 ((ok.2.2 r.1).mpr ⟨h1.1, fun j hj hji => h1.2 j (by omega) hji⟩)
        have h3 := h1.2 k (by omega) c
        omega
/-! ### farthest lands -/
def farL (ss : List (Int × Int)) (i j : Nat) : C3 := btL (gS ss j) (gS ss i)
def farO (x y u v : Int) (ss : List (Int × Int)) (i : Nat) : Option (List (C3 × Int)) := cutsK (bxRw x y u v) (farL ss i) i ss.length
theorem box_A {x y u v : Int} {ss : List (Int × Int)} (h : LdOk x y u v ss) : Fk (nmA 102 204) (bxRw x y u v) :=
  box_Fk h.bx.1 h.bx.2.1 (Zl.sm (by decide) (by decide) (h.zy.mono (by decide)) (by decide)) (Zl.sm (by decide) (by decide) (h.zu.mono (by decide)) (by decide)) (Zl.sm (by decide) (by decide) (h.zv.mono (by decide)) (by decide)) (Zl.sm (by decide) (by decide) (h.zx.mono (by decide)) (by decide))
theorem far_zl {x y u v : Int} {ss : List (Int × Int)} (h : LdOk x y u v ss) {i j : Nat} (hi : i < ss.length) (hj : j < ss.length) (hne : j ≠ i) : Zl 102 204 (farL ss i j) := by
  have a := h.zs _ (gS_mem hi)
  have b := h.zs _ (gS_mem hj)
  exact bt_zl (gS_ne h.bx.2.2.2.2.1 hj hi hne) b.1 b.2 a.1 a.2
theorem far_le {x y u v : Int} {ss : List (Int × Int)} (h : LdOk x y u v ss) {i j : Nat} (hi : i < ss.length) (hj : j < ss.length) (hne : j ≠ i) {q : C3} (hw : 0 < q.2.2) : htC (farL ss i j) q ≤ 0 ↔ ftC q (gS ss j) ≤ ftC q (gS ss i) := bt_le (gS_ne h.bx.2.2.2.2.1 hj hi hne) hw
theorem far_in {x y u v : Int} {ss : List (Int × Int)} (h : LdOk x y u v ss) {i : Nat} (hi : i < ss.length) {n : Nat} (hn : n ≤ ss.length) {rs : List (C3 × Int)} (e : cutsK (bxRw x y u v) (farL ss i) i n = some rs) : Fk (nmA 102 204) rs ∧ rs.length ≤ 4 + n ∧ ∀ q, 0 < q.2.2 → (InC (rs.map (·.1)) q ↔ InC ((bxRw x y u v).map (·.1)) q ∧ ∀ j, j < n → ftC q (gS ss j) ≤ ftC q (gS ss i)) := by
  have k := cutsK_ok (n := n) (box_A h) (fun j hj hne => far_zl h hi (by omega) hne) n (Nat.le_refl _) rs e
  refine ⟨k.1, k.2.1, fun q hw => (k.2.2 q).trans (and_congr_right fun _ => ⟨fun z j hj => ?_, fun z j hj hji => (far_le h hi (by omega) hji hw).mpr (z j hj)⟩)⟩
  by_cases c : j = i
  · rw [c]; exact Int.le_refl _
  · exact (far_le h hi (by omega) c hw).mp (z j hj c)
/-- each point of the box lies in one of them -/
theorem far_cover {x y u v : Int} {ss : List (Int × Int)} (h : LdOk x y u v ss) {q : C3} (hw : 0 < q.2.2) (hq : InC ((bxRw x y u v).map (·.1)) q) : ∀ n, 1 ≤ n → n ≤ ss.length → ∃ i rs, i < n ∧ cutsK (bxRw x y u v) (farL ss i) i n = some rs ∧ InC (rs.map (·.1)) q
  | 0, h1, _ => by omega
  | 1, _, _ => ⟨0, _, by omega, rfl, hq⟩
  | n + 2, _, hn => by
    obtain ⟨i, rs, hi, e, iq⟩ := far_cover h hw hq (n + 1) (by omega) (by omega)
    have k := far_in h (i := i) (by omega) (n := n + 1) (by omega) e
    have hne : n + 1 ≠ i := by omega
    have zl := far_zl h (i := i) (j := n + 1) (by omega) (by omega) hne
    have step : cutsK (bxRw x y u v) (farL ss i) i (n + 2) = cutO rs (farL ss i (n + 1)) ((n + 1 : Nat) : Int) := by
      show (if n + 1 = i then _ else _) = _
      rw [if_neg hne, e]; rfl
    have other : ∀ R, Fk (nmA 102 204) R → (∀ x, InC (R.map (·.1)) x → InC (rs.map (·.1)) x ∧ 0 ≤ htC (farL ss i (n + 1)) x) → InC (R.map (·.1)) q → ∃ j qs, j < n + 2 ∧ cutsK (bxRw x y u v) (farL ss j) j (n + 2) = some qs ∧ InC (qs.map (·.1)) q := fun R fR hR hRq => by
      have key : ∀ z, 0 < z.2.2 → InC (R.map (·.1)) z → InC ((bxRw x y u v).map (·.1)) z ∧ ∀ j, j < n + 2 → j ≠ n + 1 → htC (farL ss (n + 1) j) z ≤ 0 := fun z wz hz => by
        have a := hR z hz
        have b := (k.2.2 z wz).mp a.1
        refine ⟨b.1, fun j hj hji => (far_le h (by omega) (by omega) hji wz).mpr ?_⟩
        have c := b.2 j (by omega)
        have d : ftC z (gS ss i) ≤ ftC z (gS ss (n + 1)) := by
          rcases Int.lt_or_le (ftC z (gS ss (n + 1))) (ftC z (gS ss i)) with o | o
          · have := (bt_lt (gS_ne h.bx.2.2.2.2.1 (i := n + 1) (j := i) (by omega) (by omega) hne) wz).mpr o
            have a2 : 0 ≤ htC (btL (gS ss (n + 1)) (gS ss i)) z := a.2
            omega
          · exact o
        exact Int.le_trans c d
      obtain ⟨qs, eq⟩ := cutsK_some (n := n + 2) (i := n + 1) (L := farL ss (n + 1)) (box_A h) (fun j hj hji => ⟨far_zl h (by omega) (by omega) hji, (far_zl h (i := n + 1) (by omega) (by omega) hji).2.2.2⟩) fR key (n + 2) (Nat.le_refl _)
      refine ⟨n + 1, qs, by omega, eq, ?_⟩
      have k2 := cutsK_ok (n := n + 2) (box_A h) (fun j hj hji => far_zl h (i := n + 1) (by omega) (by omega) hji) (n + 2) (Nat.le_refl _) qs eq
      exact (k2.2.2 q).mpr (key q hw hRq)
    rcases cut_cases rs (farL ss i (n + 1)) with c | ⟨c, p⟩ | ⟨c, p⟩
    · exact ⟨i, rs, by omega, by rw [step, cutO_all c], iq⟩
    · refine other rs k.1 (fun z hz => ⟨hz, ?_⟩) iq
      exact (k.1.none (num := 0) (cutO_non c p)).2 z hz
    · by_cases o : htC (farL ss i (n + 1)) q ≤ 0
      · exact ⟨i, _, by omega, by rw [step, cutO_some c p], (k.1.ins (num := ((n + 1 : Nat) : Int)) zl c p q).mpr ⟨iq, o⟩⟩
      · have c' : ∃ r ∈ rs, htC (ngC (farL ss i (n + 1))) r.1 < 0 := p.imp fun r k => ⟨k.1, by rw [ht_ng]; omega⟩
        have p' : ∃ r ∈ rs, 0 < htC (ngC (farL ss i (n + 1))) r.1 := c.imp fun r k => ⟨k.1, by rw [ht_ng]; omega⟩
        have k2 := k.1.cutY (num := 0) zl.ng c' p'
        refine other _ k2.1 (fun z hz => ?_) ((k.1.ins (num := 0) zl.ng c' p' q).mpr ⟨iq, by rw [ht_ng]; omega⟩)
        have := (k.1.ins (num := 0) zl.ng c' p' z).mp hz
        rw [ht_ng] at this
        exact ⟨this.1, by omega⟩
theorem max_of : ∀ {ns : List Int}, 0 < ns.length → ∃ m, m ∈ ns ∧ ∀ y ∈ ns, y ≤ m
  | [a], _ => ⟨a, by simp, by simp⟩
  | a :: b :: r, _ => by
    obtain ⟨m, h1, h2⟩ := max_of (ns := b :: r) (by simp)
    rcases Int.le_total a m with k | k
    · exact ⟨m, List.mem_cons_of_mem _ h1, fun y hy => by
        rcases List.mem_cons.mp hy with rfl | hy
        · exact k
        · exact h2 y hy⟩
    · exact ⟨a, by simp, fun y hy => by
        rcases List.mem_cons.mp hy with rfl | hy
        · exact Int.le_refl _
        · exact Int.le_trans (h2 y hy) k⟩

/-! ### two fields with the same points are one -/
theorem low_same {c k : C3} (hc : Low c) (hk : Low k) (e1 : c.1 * k.2.2 = k.1 * c.2.2) (e2 : c.2.1 * k.2.2 = k.2.1 * c.2.2) : c = k := by
  have d1 : c.2.2 ∣ k.2.2 := dvd_low hc.2 ⟨k.1, by rw [e1, Int.mul_comm]⟩ ⟨k.2.1, by rw [e2, Int.mul_comm]⟩
  have d2 : k.2.2 ∣ c.2.2 := dvd_low hk.2 ⟨c.1, by rw [← e1, Int.mul_comm]⟩ ⟨c.2.1, by rw [← e2, Int.mul_comm]⟩
  have w1 := hc.1
  have w2 := hk.1
  have ew : c.2.2 = k.2.2 := Int.dvd_antisymm (by omega) (by omega) d1 d2
  rw [ew] at e1 e2
  exact Prod.ext (Int.eq_of_mul_eq_mul_right (by omega) e1) (Prod.ext (Int.eq_of_mul_eq_mul_right (by omega) e2) ew)
theorem zero_of {a b c : Int} (ha : 0 ≤ a) (hb : 0 ≤ b) (hc : 0 ≤ c) (h : a + b + c = 0) : a = 0 ∧ b = 0 ∧ c = 0 := by omega
theorem on_both {e c d k : C3} (hD : 0 < dt e c d) (wc : 0 < c.2.2) (wk : 0 < k.2.2) (h1 : dt e c k = 0) (h2 : dt c d k = 0) : c.1 * k.2.2 = k.1 * c.2.2 ∧ c.2.1 * k.2.2 = k.2.1 * c.2.2 := by
  have x := cramer1 e c d k
  have y := cramer2 e c d k
  have w := cramer3 e c d k
  rw [h1, h2, Int.zero_mul, Int.zero_mul, Int.zero_add, Int.add_zero] at x y w
  generalize dt e k d = m at *
  generalize dt e c d = D at *
  constructor
  · apply Int.eq_of_mul_eq_mul_left (show D ≠ 0 by omega)
    have : D * (c.1 * k.2.2) = c.1 * (D * k.2.2) := by grind
    rw [this, w]
    have : D * (k.1 * c.2.2) = (D * k.1) * c.2.2 := by grind
    rw [this, x]
    grind
  · apply Int.eq_of_mul_eq_mul_left (show D ≠ 0 by omega)
    have : D * (c.2.1 * k.2.2) = c.2.1 * (D * k.2.2) := by grind
    rw [this, w]
    have : D * (k.2.1 * c.2.2) = (D * k.2.1) * c.2.2 := by grind
    rw [this, y]
    grind
/-- each corner of the one is a corner of the other -/
theorem Fk.corners {nm nm' : Int → C3 → Prop} {rs qs : List (C3 × Int)} (h : Fk nm rs) (k : Fk nm' qs) (e : ∀ q, 0 < q.2.2 → (InC (rs.map (·.1)) q ↔ InC (qs.map (·.1)) q)) {r : C3 × Int} (hr : r ∈ rs) : r.1 ∈ qs.map (·.1) := by
  obtain ⟨x, y, ex⟩ := List.append_of_mem hr
  have rt : Rot rs ([r] ++ (y ++ x)) := ⟨x, r :: y, ex, by simp⟩
  have f := h.rot rt
  have h3 := f.three
  have ic : InC (rs.map (·.1)) r.1 := h.corner hr
  have wr := h.w r hr
  obtain ⟨a, b, c, ha, hb, hc, hD, p1, p2, p3⟩ := InC.three k.cv (by rw [List.length_map]; exact k.three) ((e r.1 wr).mp ic)
  have hw : ∀ z ∈ qs.map (·.1), 0 < z.2.2 ∧ Low z := fun z hz => by obtain ⟨s, hs, rfl⟩ := List.mem_map.mp hz; exact ⟨k.w s hs, k.lows hs⟩
  have hin : ∀ z ∈ qs.map (·.1), InC ((rs.map (·.1))) z := fun z hz => (e z (hw z hz).1).mpr (Cv.edges k.cv (by rw [List.length_map]; exact k.three) hz)
  match ht : y ++ x, f, h3 with
  | s :: t, f, h3 =>
    obtain ⟨g, hg⟩ : ∃ g, (s :: t).getLast? = some g := ⟨_, List.getLast?_eq_some_getLast (by simp)⟩
    have edges : ∀ z ∈ qs.map (·.1), 0 ≤ dt r.1 s.1 z ∧ 0 ≤ dt g.1 r.1 z := fun z hz => by
      have iz := (rt.map (fun r : C3 × Int => r.1)).ri (hin z hz)
      rw [ht] at iz
      rw [Ri.map, Ri.form (A := [r]) (B := s :: t) rfl rfl rfl hg] at iz
      exact ⟨iz.2.1, iz.2.2.2⟩
    obtain ⟨t', et⟩ := List.getLast?_eq_some_iff.mp hg
    have cv := f.cv
    have hgd : 0 < dt g.1 r.1 s.1 := by
      match t', et with
      | [], et => rw [et] at h3; simp at h3
      | u :: t2, et =>
        have eu : u = s := by simp at et; exact et.1.symm
        rw [et, eu] at cv
        simp only [List.cons_append, List.nil_append, List.map_cons, List.map_append, Cv, List.pairwise_cons, List.map_nil] at cv
        rw [dt_cyc2]
        exact cv.1.1 _ (by simp)
    have lin : ∀ u : C3, lf u r.1 = 0 → (∀ z ∈ qs.map (·.1), 0 ≤ lf u z) → dt b c r.1 * lf u a = 0 ∧ dt a r.1 c * lf u b = 0 ∧ dt a b r.1 * lf u c = 0 := fun u hu hz => by
      have cr := cramer u a b c r.1
      rw [hu, Int.mul_zero] at cr
      exact zero_of (Int.mul_nonneg p1 (hz a ha)) (Int.mul_nonneg p2 (hz b hb)) (Int.mul_nonneg p3 (hz c hc)) cr.symm
    have A := lin _ (by rw [← dt_lf r.1 s.1 r.1]; exact dt_self3 _ _) (fun z hz => by rw [← dt_lf r.1 s.1 z]; exact (edges z hz).1)
    have Bq := lin _ (by rw [← dt_lf g.1 r.1 r.1]; exact dt_self2 _ _) (fun z hz => by rw [← dt_lf g.1 r.1 z]; exact (edges z hz).2)
    rw [← dt_lf, ← dt_lf, ← dt_lf] at A Bq
    have fin : ∀ z ∈ qs.map (·.1), ∀ l : Int, l ≠ 0 → l * dt r.1 s.1 z = 0 → l * dt g.1 r.1 z = 0 → r.1 ∈ qs.map (·.1) := fun z hz l hl h1 h2 => by
      have q1 := (Int.mul_eq_zero.mp h1).resolve_left hl
      have q2 := (Int.mul_eq_zero.mp h2).resolve_left hl
      have := on_both hgd wr (hw z hz).1 q2 q1
      rw [low_same (h.lows hr) (hw z hz).2 this.1 this.2]
      exact hz
    by_cases z1 : dt b c r.1 = 0
    · by_cases z2 : dt a r.1 c = 0
      · by_cases z3 : dt a b r.1 = 0
        · exfalso
          have cr := cramer3 a b c r.1
          rw [z1, z2, z3] at cr
          have := Int.mul_pos hD wr
          omega
        · exact fin c hc _ z3 A.2.2 Bq.2.2
      · exact fin b hb _ z2 A.2.1 Bq.2.1
    · exact fin a ha _ z1 A.1 Bq.1
/-- lists in one order with the same things are one -/
theorem pw_same {α : Type} {R : α → α → Prop} (as : ∀ a b, R a b → ¬ R b a) : ∀ {L K : List α}, L.Pairwise R → K.Pairwise R → (∀ x, x ∈ L ↔ x ∈ K) → L = K
  | [], [], _, _, _ => rfl
  | [], y :: K, _, _, e => by have := (e y).mpr (by simp); simp at this
  | x :: L, [], _, _, e => by have := (e x).mp (by simp); simp at this
  | x :: L, y :: K, hL, hK, e => by
    rw [List.pairwise_cons] at hL hK
    have irr : ∀ a, ¬ R a a := fun a h => as a a h h
    have exy : x = y := by
      rcases List.mem_cons.mp ((e x).mp (by simp)) with k | k
      · exact k
      · rcases List.mem_cons.mp ((e y).mpr (by simp)) with l | l
        · exact l.symm
        · exact absurd (hK.1 x k) (as _ _ (hL.1 y l))
    subst exy
    rw [pw_same as hL.2 hK.2 fun z => ⟨fun hz => ?_, fun hz => ?_⟩]
    · rcases List.mem_cons.mp ((e z).mp (List.mem_cons_of_mem _ hz)) with k | k
      · subst k; exact absurd (hL.1 z hz) (irr z)
      · exact k
    · rcases List.mem_cons.mp ((e z).mpr (List.mem_cons_of_mem _ hz)) with k | k
      · subst k; exact absurd (hK.1 z hz) (irr z)
      · exact k
theorem Fk.same {nm nm' : Int → C3 → Prop} {rs qs : List (C3 × Int)} (h : Fk nm rs) (k : Fk nm' qs) (l1 : Lead rs) (l2 : Lead qs) (e : ∀ q, 0 < q.2.2 → (InC (rs.map (·.1)) q ↔ InC (qs.map (·.1)) q)) : rs.map (·.1) = qs.map (·.1) := by
  have m : ∀ c, c ∈ rs.map (·.1) ↔ c ∈ qs.map (·.1) := fun c => ⟨fun hc => by obtain ⟨r, hr, rfl⟩ := List.mem_map.mp hc; exact h.corners k e hr, fun hc => by obtain ⟨r, hr, rfl⟩ := List.mem_map.mp hc; exact k.corners h (fun q hq => (e q hq).symm) hr⟩
  have h3 := h.three
  have k3 := k.three
  match rs, qs, h, k, l1, l2, m, h3, k3 with
  | r :: rs, q :: qs, h, k, l1, l2, m, _, _ =>
    have wr := h.w r (by simp)
    have wq := k.w q (by simp)
    have erq : r.1 = q.1 := by
      rcases List.mem_cons.mp ((m r.1).mp (by simp)) with a | a
      · exact a
      · rcases List.mem_cons.mp ((m q.1).mpr (by simp)) with b | b
        · exact b.symm
        · obtain ⟨s, hs, es⟩ := List.mem_map.mp a
          obtain ⟨t, ht, et⟩ := List.mem_map.mp b
          have x1 := l2 q qs rfl s hs
          have x2 := l1 r rs rfl t ht
          rw [es] at x1
          rw [et] at x2
          have := ah_tr wr wq wr x2 x1
          rw [ah_irr] at this
          cases this
    have c1 := h.cv.1
    have c2 := k.cv.1
    show r.1 :: rs.map (·.1) = q.1 :: qs.map (·.1)
    have c2' : (qs.map (fun x : C3 × Int => x.1)).Pairwise (fun a b => 0 < dt r.1 a b) := by rw [erq]; exact c2
    have irr : ∀ a, ¬ 0 < dt r.1 a a := fun a z => by rw [dt_self2] at z; omega
    have nr1 : r.1 ∉ rs.map (·.1) := fun z => by
      obtain ⟨s, hs, es⟩ := List.mem_map.mp z
      have := l1 r rs rfl s hs
      rw [es, ah_irr] at this; cases this
    have nr2 : r.1 ∉ qs.map (·.1) := fun z => by
      obtain ⟨s, hs, es⟩ := List.mem_map.mp z
      have := l2 q qs rfl s hs
      rw [es, erq, ah_irr] at this; cases this
    rw [pw_same (R := fun a b => 0 < dt r.1 a b) (fun a b z1 z2 => by rw [dt_swap2] at z2; omega) c1 c2' fun z => ⟨fun hz => ?_, fun hz => ?_⟩, erq]
    · rcases List.mem_cons.mp ((m z).mp (List.mem_cons_of_mem _ hz)) with a | a
      · exfalso; have a : z = r.1 := a.trans erq.symm; rw [a] at hz; exact nr1 hz
      · exact a
    · rcases List.mem_cons.mp ((m z).mpr (List.mem_cons_of_mem _ hz)) with a | a
      · exfalso; have a : z = r.1 := a; rw [a] at hz; exact nr2 hz
      · exact a

/-! ### the areas of all parts come to the whole -/
/-- lines between each two of n things: behind the line of i and j the i-th is no greater -/
structure Fam (M K n : Nat) (L : Nat → Nat → C3) : Prop where
  zl : ∀ i j, i < n → j < n → i ≠ j → Zl M K (L i j)
  ng : ∀ i j, i < n → j < n → i ≠ j → L j i = ngC (L i j)
  tr : ∀ i j k, i < n → j < n → k < n → i ≠ j → j ≠ k → i ≠ k → ∀ q : C3, 0 < q.2.2 → htC (L i j) q ≤ 0 → htC (L j k) q ≤ 0 → htC (L i k) q ≤ 0
theorem Fam.less {M K n m : Nat} {L : Nat → Nat → C3} (h : Fam M K n L) (k : m ≤ n) : Fam M K m L :=
  ⟨fun i j hi hj => h.zl i j (by omega) (by omega), fun i j hi hj => h.ng i j (by omega) (by omega), fun i j k hi hj hk => h.tr i j k (by omega) (by omega) (by omega)⟩
def sumR (f : Nat → Rat) : Nat → Rat
  | 0 => 0
  | k + 1 => sumR f k + f k
theorem sumR_congr {f g : Nat → Rat} : ∀ n, (∀ i, i < n → f i = g i) → sumR f n = sumR g n
  | 0, _ => rfl
  | n + 1, h => by unfold sumR; rw [sumR_congr n fun i hi => h i (by omega), h n (by omega)]
theorem sumR_add {f g h : Nat → Rat} : ∀ n, (∀ i, i < n → f i + g i = h i) → sumR f n + sumR g n = sumR h n
  | 0, _ => Rat.add_zero 0
  | n + 1, k => by
    unfold sumR
    rw [← sumR_add n fun i hi => k i (by omega), ← k n (by omega)]
    grind
theorem sumR_zero {f : Nat → Rat} : ∀ n, (∀ i, i < n → f i = 0) → sumR f n = 0
  | 0, _ => rfl
  | n + 1, h => by unfold sumR; rw [sumR_zero n fun i hi => h i (by omega), h n (by omega), Rat.add_zero]
/-- twice the area of what may be None -/
def ar2O : Option (List (C3 × Int)) → Rat
  | none => 0
  | some rs => ar2 (rs.map (·.1))
theorem cutsK_lead {nm : Int → C3 → Prop} {P : List (C3 × Int)} {L : Nat → C3} {i n : Nat} (hP : Fk nm P) (lP : Lead P) (hl : ∀ j : Nat, j < n → j ≠ i → nm j (L j)) : ∀ k, k ≤ n → ∀ rs, cutsK P L i k = some rs → Lead rs
  | 0, _, rs, e => by cases e; exact lP
  | k + 1, hk, rs, e => by
    unfold cutsK at e
    by_cases c : k = i
    · rw [if_pos c] at e
      exact cutsK_lead hP lP hl k (by omega) rs e
    · rw [if_neg c] at e
      obtain ⟨qs, e1, e2⟩ := Option.bind_eq_some_iff.mp e
      have a := (cutsK_ok hP hl k (by omega) qs e1).1
      exact (a.cutO (num := (k : Int)) (hl k (by omega) c) e2).2.1 (cutsK_lead hP lP hl k (by omega) qs e1)
/-- both parts of one cut -/
theorem cut_both {M K : Nat} {rs : List (C3 × Int)} (h : Fk (nmA M K) rs) {l : C3} (zl : Zl M K l) (n m : Int) : ar2O (cutO rs l n) + ar2O (cutO rs (ngC l) m) = ar2 (rs.map (·.1)) := by
  have nl := zl.2.2.2
  rcases cut_cases rs l with c | ⟨c, p⟩ | ⟨c, p⟩
  · have e : cutO rs (ngC l) m = none := by
      refine cutO_non (fun r hr => by rw [ht_ng]; have := c r hr; omega) ?_
      apply Classical.byContradiction
      intro k
      refine h.flat nl fun r hr => ?_
      have := c r hr
      have : ¬ 0 < htC (ngC l) r.1 := fun z => k ⟨r, hr, z⟩
      rw [ht_ng] at this
      omega
    rw [cutO_all c, e]
    show ar2 _ + 0 = _
    rw [Rat.add_zero]
  · rw [cutO_non c p, cutO_all (l := ngC l) fun r hr => by rw [ht_ng]; have := c r hr; omega]
    show 0 + ar2 _ = _
    rw [Rat.zero_add]
  · have c' : ∃ r ∈ rs, htC (ngC l) r.1 < 0 := p.imp fun r k => ⟨k.1, by rw [ht_ng]; omega⟩
    have p' : ∃ r ∈ rs, 0 < htC (ngC l) r.1 := c.imp fun r k => ⟨k.1, by rw [ht_ng]; omega⟩
    rw [cutO_some c p, cutO_some c' p']
    exact h.parts nl c p
theorem parts_all {M K : Nat} {L : Nat → Nat → C3} : ∀ (n : Nat), 1 ≤ n → Fam M K n L → ∀ P : List (C3 × Int), Fk (nmA M K) P → Lead P → sumR (fun i => ar2O (cutsK P (L i) i n)) n = ar2 (P.map (·.1))
  | 0, h, _, _, _, _ => by omega
  | 1, _, _, P, _, _ => by
    show 0 + ar2O (cutsK P (L 0) 0 1) = _
    rw [Rat.zero_add]
    rfl
  | n + 2, _, F, P, fP, lP => by
    have F1 : Fam M K (n + 1) L := F.less (by omega)
    have ihP := parts_all (n + 1) (by omega) F1 P fP lP
    have hz : ∀ i, i < n + 2 → ∀ k, k ≤ n + 2 → ∀ j : Nat, j < k → j ≠ i → nmA M K j (L i j) := fun i hi k hk j hj hji => F.zl i j hi (by omega) (Ne.symm hji)
    have hz2 : ∀ i, i < n + 2 → ∀ k, k ≤ n + 2 → ∀ j : Nat, j < k → j ≠ i → nmA M K j (L i j) ∧ ((L i j).1 ≠ 0 ∨ (L i j).2.1 ≠ 0) := fun i hi k hk j hj hji => ⟨hz i hi k hk j hj hji, (hz i hi k hk j hj hji).2.2.2⟩
    -- what the last one takes from the i-th
    let C : Nat → Option (List (C3 × Int)) := fun i => (cutsK P (L i) i (n + 1)).bind fun rs => cutO rs (L (n + 1) i) 0
    have step : ∀ i, i < n + 1 → cutsK P (L i) i (n + 2) = (cutsK P (L i) i (n + 1)).bind fun rs => cutO rs (L i (n + 1)) ((n + 1 : Nat) : Int) := fun i hi => by
      show (if n + 1 = i then _ else _) = _
      rw [if_neg (by omega)]
    have both : ∀ i, i < n + 1 → ar2O (cutsK P (L i) i (n + 2)) + ar2O (C i) = ar2O (cutsK P (L i) i (n + 1)) := fun i hi => by
      rw [step i hi]
      show _ + ar2O ((cutsK P (L i) i (n + 1)).bind fun rs => cutO rs (L (n + 1) i) 0) = _
      cases e : cutsK P (L i) i (n + 1) with
      | none => exact Rat.add_zero 0
      | some rs =>
        have k := cutsK_ok fP (hz i (by omega) (n + 1) (by omega)) (n + 1) (Nat.le_refl _) rs e
        rw [F.ng i (n + 1) (by omega) (by omega) (by omega)]
        exact cut_both k.1 (F.zl i (n + 1) (by omega) (by omega) (by omega)) _ _
    -- its points
    have cIn : ∀ i, i < n + 1 → ∀ R, C i = some R → Fk (nmA M K) R ∧ Lead R ∧ ∀ q, InC (R.map (·.1)) q ↔ (InC (P.map (·.1)) q ∧ ∀ j, j < n + 1 → j ≠ i → htC (L i j) q ≤ 0) ∧ htC (L (n + 1) i) q ≤ 0 := fun i hi R e => by
      obtain ⟨rs, e1, e2⟩ := Option.bind_eq_some_iff.mp e
      have k := cutsK_ok fP (hz i (by omega) (n + 1) (by omega)) (n + 1) (Nat.le_refl _) rs e1
      have l := cutsK_lead fP lP (hz i (by omega) (n + 1) (by omega)) (n + 1) (Nat.le_refl _) rs e1
      have c := k.1.cutO (num := 0) (F.zl (n + 1) i (by omega) (by omega) (by omega)) e2
      exact ⟨c.1, c.2.1 l, fun q => by rw [c.2.2.2 q, k.2.2 q]⟩
    have inN : ∀ i, i < n + 1 → ∀ q : C3, 0 < q.2.2 → (∀ j, j < n + 1 → j ≠ i → htC (L i j) q ≤ 0) → htC (L (n + 1) i) q ≤ 0 → ∀ j, j < n + 1 → htC (L (n + 1) j) q ≤ 0 := fun i hi q hw h1 h2 j hj => by
      by_cases c : j = i
      · rw [c]; exact h2
      · exact F.tr (n + 1) i j (by omega) (by omega) (by omega) (by omega) (Ne.symm c) (by omega) q hw h2 (h1 j hj c)
    have lastE : cutsK P (L (n + 1)) (n + 1) (n + 2) = cutsK P (L (n + 1)) (n + 1) (n + 1) := by
      show (if n + 1 = n + 1 then _ else _) = _
      rw [if_pos rfl]
    have cSum : sumR (fun i => ar2O (C i)) (n + 1) = ar2O (cutsK P (L (n + 1)) (n + 1) (n + 2)) := by
      rw [lastE]
      cases eB : cutsK P (L (n + 1)) (n + 1) (n + 1) with
      | none =>
        refine sumR_zero (n + 1) fun i hi => ?_
        cases eC : C i with
        | none => rfl
        | some R =>
          exfalso
          obtain ⟨fR, _, iR⟩ := cIn i hi R eC
          obtain ⟨rs, er⟩ := cutsK_some (n := n + 1) (i := n + 1) (L := L (n + 1)) fP (hz2 (n + 1) (by omega) (n + 1) (by omega)) fR (fun x hw hx => by
            have k := (iR x).mp hx
            exact ⟨k.1.1, fun j hj _ => inN i hi x hw k.1.2 k.2 j hj⟩) (n + 1) (Nat.le_refl _)
          rw [eB] at er
          cases er
      | some Bp =>
        have kB := cutsK_ok fP (hz (n + 1) (by omega) (n + 1) (by omega)) (n + 1) (Nat.le_refl _) Bp eB
        have lB := cutsK_lead fP lP (hz (n + 1) (by omega) (n + 1) (by omega)) (n + 1) (Nat.le_refl _) Bp eB
        have ihB := parts_all (n + 1) (by omega) F1 Bp kB.1 lB
        show _ = ar2 (Bp.map (·.1))
        rw [← ihB]
        refine sumR_congr (n + 1) fun i hi => ?_
        have sameP : ∀ q : C3, 0 < q.2.2 → (((InC (P.map (·.1)) q ∧ ∀ j, j < n + 1 → j ≠ i → htC (L i j) q ≤ 0) ∧ htC (L (n + 1) i) q ≤ 0) ↔ (InC (Bp.map (·.1)) q ∧ ∀ j, j < n + 1 → j ≠ i → htC (L i j) q ≤ 0)) := fun q hw => by
          rw [kB.2.2 q]
          constructor
          · rintro ⟨⟨a, b⟩, c⟩
            exact ⟨⟨a, fun j hj _ => inN i hi q hw b c j hj⟩, b⟩
          · rintro ⟨⟨a, b⟩, c⟩
            exact ⟨⟨a, c⟩, b i hi (by omega)⟩
        cases eC : C i with
        | none =>
          cases eD : cutsK Bp (L i) i (n + 1) with
          | none => rfl
          | some R =>
            exfalso
            have kD := cutsK_ok kB.1 (hz i (by omega) (n + 1) (by omega)) (n + 1) (Nat.le_refl _) R eD
            have key : ∀ x : C3, 0 < x.2.2 → InC (R.map (·.1)) x → (InC (P.map (·.1)) x ∧ ∀ j, j < n + 1 → j ≠ i → htC (L i j) x ≤ 0) ∧ htC (L (n + 1) i) x ≤ 0 := fun x hw hx => (sameP x hw).mpr ((kD.2.2 x).mp hx)
            obtain ⟨rs, er⟩ := cutsK_some (n := n + 1) (i := i) (L := L i) fP (hz2 i (by omega) (n + 1) (by omega)) kD.1 (fun x hw hx => (key x hw hx).1) (n + 1) (Nat.le_refl _)
            have kA := cutsK_ok fP (hz i (by omega) (n + 1) (by omega)) (n + 1) (Nat.le_refl _) rs er
            have ec : G.cutO rs (L (n + 1) i) 0 = none := by
              have : C i = G.cutO rs (L (n + 1) i) 0 := by
                show (cutsK P (L i) i (n + 1)).bind _ = _
                rw [er]; rfl
              rw [← this]; exact eC
            refine kD.1.flat (F.zl (n + 1) i (by omega) (by omega) (by omega)).2.2.2 fun r hr => ?_
            have w := kD.1.w r hr
            have a := key r.1 w (kD.1.corner hr)
            have b := (kA.1.none ec).2 r.1 ((kA.2.2 r.1).mpr a.1)
            have c := a.2
            omega
        | some R =>
          obtain ⟨fR, lR, iR⟩ := cIn i hi R eC
          obtain ⟨S, eS⟩ := cutsK_some (n := n + 1) (i := i) (L := L i) kB.1 (hz2 i (by omega) (n + 1) (by omega)) fR (fun x hw hx => (sameP x hw).mp ((iR x).mp hx)) (n + 1) (Nat.le_refl _)
          have kS := cutsK_ok kB.1 (hz i (by omega) (n + 1) (by omega)) (n + 1) (Nat.le_refl _) S eS
          have lS := cutsK_lead kB.1 lB (hz i (by omega) (n + 1) (by omega)) (n + 1) (Nat.le_refl _) S eS
          rw [eS]
          show ar2 (R.map (·.1)) = ar2 (S.map (·.1))
          rw [fR.same kS.1 lR lS fun q hw => by rw [iR q, kS.2.2 q]; exact sameP q hw]
    show sumR (fun i => ar2O (cutsK P (L i) i (n + 2))) (n + 1) + ar2O (cutsK P (L (n + 1)) (n + 1) (n + 2)) = _
    rw [← ihP, ← cSum]
    exact sumR_add (n + 1) fun i hi => both i hi

/-! ### the lands cover the box -/
theorem landK_cuts {x y u v : Int} {ss : List (Int × Int)} {i : Nat} : ∀ k, landK x y u v ss i k = cutsK (bxRw x y u v) (fun j => btL (gS ss i) (gS ss j)) i k
  | 0 => rfl
  | k + 1 => by unfold landK cutsK; rw [landK_cuts k]
/-- spots of N bits, a box of 2 N + 4 bits -/
structure LdB (N : Nat) (x y u v : Int) (ss : List (Int × Int)) : Prop where
  ok : LdOk x y u v ss
  zx : Zb (2 * N + 4) x
  zy : Zb (2 * N + 4) y
  zu : Zb (2 * N + 4) u
  zv : Zb (2 * N + 4) v
  zs : ∀ p ∈ ss, Zb N p.1 ∧ Zb N p.2
theorem LdB.fam {N : Nat} {x y u v : Int} {ss : List (Int × Int)} (h : LdB N x y u v ss) : Fam (N + 2) (2 * N + 4) ss.length (fun i j => btL (gS ss i) (gS ss j)) := by
  have nd := h.ok.bx.2.2.2.2.1
  refine ⟨fun i j hi hj hne => ?_, fun i j hi hj hne => bt_swap _ _, fun i j k hi hj hk h1 h2 h3 q hw a b => ?_⟩
  · have z1 := h.zs _ (gS_mem hi)
    have z2 := h.zs _ (gS_mem hj)
    exact bt_zlN (gS_ne nd hi hj hne) z1.1 z1.2 z2.1 z2.2
  · rw [bt_le (gS_ne nd hi hj h1) hw] at a
    rw [bt_le (gS_ne nd hj hk h2) hw] at b
    rw [bt_le (gS_ne nd hi hk h3) hw]
    exact Int.le_trans a b
theorem LdB.box {N : Nat} {x y u v : Int} {ss : List (Int × Int)} (h : LdB N x y u v ss) : Fk (nmA (N + 2) (2 * N + 4)) (bxRw x y u v) := by
  have one : ∀ {n : Nat}, Zb (n + 2) 1 := fun {n} => by show (1 : Nat) < 2 ^ (n + 2); rw [Nat.pow_add]; have := Nat.two_pow_pos n; omega
  have zer : ∀ {n : Nat}, Zb n 0 := fun {n} => by show (0 : Nat) < 2 ^ n; exact Nat.two_pow_pos n
  exact box_Fk h.ok.bx.1 h.ok.bx.2.1 (Zl.sm zer one h.zy (by decide)) (Zl.sm one zer h.zu (by decide)) (Zl.sm zer one h.zv (by decide)) (Zl.sm one zer h.zx (by decide))
theorem LdB.land {N : Nat} {x y u v : Int} {ss : List (Int × Int)} (h : LdB N x y u v ss) {i : Nat} (hi : i < ss.length) : Fk (nmA (N + 2) (2 * N + 4)) (landR x y u v ss i) := by
  have e := (landR_ok h.ok hi).1
  rw [landK_cuts] at e
  exact (cutsK_ok (n := ss.length) h.box (fun j hj hji => h.fam.zl i j hi hj (Ne.symm hji)) ss.length (Nat.le_refl _) _ e).1
theorem lands_sum {N : Nat} {x y u v : Int} {ss : List (Int × Int)} (h : LdB N x y u v ss) : sumR (fun i => ar2 ((landR x y u v ss i).map (·.1))) ss.length = ar2 ((bxRw x y u v).map (·.1)) := by
  have l0 : ss.length ≠ 0 := fun z => h.ok.bx.2.2.1 (List.length_eq_zero_iff.mp z)
  rw [← parts_all ss.length (by omega) h.fam (bxRw x y u v) h.box (box_lead h.ok.bx.1 h.ok.bx.2.1)]
  refine sumR_congr _ fun i hi => ?_
  have e := (landR_ok h.ok hi).1
  rw [landK_cuts] at e
  show _ = ar2O (cutsK (bxRw x y u v) (fun j => btL (gS ss i) (gS ss j)) i ss.length)
  rw [e]
  rfl
theorem box_ar {x y u v : Int} : ar2 ((bxRw x y u v).map (·.1)) = ((2 * (u - x) * (v - y) : Int) : Rat) := by
  have d1 : ∀ z : Int, (z : Rat) / ((1 : Int) : Rat) = z := fun z => by rw [show ((1 : Int) : Rat) = 1 from rfl]; grind
  show cr (x, y, 1) (u, y, 1) + (cr (u, y, 1) (u, v, 1) + (cr (u, v, 1) (x, v, 1) + (cr (x, v, 1) (x, y, 1) + 0))) = _
  unfold cr qX qY
  simp only [d1, Rat.intCast_mul, Rat.intCast_sub]
  rw [show ((2 : Int) : Rat) = 2 from rfl]
  grind
/-- a spot stands to the left of each edge of its land, on one only where it is called by a side -/
theorem land_left {x y u v : Int} {ss : List (Int × Int)} (h : LdOk x y u v ss) {i : Nat} (hi : i < ss.length) : Ri (fun r s => 0 < dt ((gS ss i).1, (gS ss i).2, 1) r.1 s.1 ∨ (dt ((gS ss i).1, (gS ss i).2, 1) r.1 s.1 = 0 ∧ r.2 < 0)) (landR x y u v ss i) := by
  have lo := landR_ok h hi
  have own : InC ((landR x y u v ss i).map (·.1)) ((gS ss i).1, (gS ss i).2, 1) := by
    rw [lo.2.2.2.2]
    refine ⟨?_, fun j hj hji => Int.le_of_lt (bt_spot (gS_ne h.bx.2.2.2.2.1 hi (by omega) (Ne.symm hji)))⟩
    rw [box_in h.bx.1 h.bx.2.1]
    have := h.bx.2.2.2.2.2 _ (gS_mem hi)
    unfold inB at this
    simp only [Bool.and_eq_true, decide_eq_true_eq] at this
    simp only
    omega
  have h3 := lo.2.1.three
  unfold InC at own
  rw [Ri.map] at own
  refine (Ri.iff (by omega)).mpr fun a b t rt => ?_
  have e1 := (Ri.iff (by omega)).mp own a b t rt
  obtain ⟨L, nL, l1, l2⟩ := (Ri.iff (by omega)).mp lo.2.1.ln a b t rt
  rw [dt_cyc2] at e1
  have e1 : 0 ≤ dt ((gS ss i).1, (gS ss i).2, 1) a.1 b.1 := by rw [← dt_cyc]; rw [← dt_cyc2] at e1; exact e1
  rcases Int.lt_or_eq_of_le e1 with k | k
  · exact .inl k
  · refine .inr ⟨k.symm, ?_⟩
    rcases nL with ⟨e, _⟩ | ⟨e, _⟩ | ⟨e, _⟩ | ⟨e, _⟩ | ⟨j, e, hj, hji, eL⟩
    · omega
    · omega
    · omega
    · omega
    · exfalso
      have cv := (rt.map (fun r : C3 × Int => r.1)).cv lo.2.1.cv
      have l := rt.len
      match t, cv, l with
      | [], cv, l => simp at l; omega
      | c :: t, cv, l =>
        have pos : 0 < dt a.1 b.1 c.1 := by
          simp only [List.map_cons, Cv, List.pairwise_cons] at cv
          exact cv.1.1 _ (by simp)
        have four := dt_four L a.1 c.1 b.1 ((gS ss i).1, (gS ss i).2, 1)
        rw [l1, l2, Int.mul_zero, Int.mul_zero] at four
        have z : dt a.1 b.1 ((gS ss i).1, (gS ss i).2, 1) = 0 := by rw [dt_cyc]; exact k.symm
        rw [z, Int.zero_mul, dt_swap2] at four
        have hs : htC L ((gS ss i).1, (gS ss i).2, 1) < 0 := by rw [eL]; exact bt_spot (gS_ne h.bx.2.2.2.2.1 hi hj (Ne.symm hji))
        have := Int.mul_neg_of_pos_of_neg pos hs
        rw [Int.neg_mul] at four
        omega
/-- a lowest bottom divides what makes the number whole -/
theorem Fr.dvd {x : Rat} {a b : Int} (h : Fr x a b) {n m : Int} (e : (n : Rat) * x = (m : Rat)) : b ∣ n := by
  have k : n * a = m * b := by
    have : ((n * a : Int) : Rat) = ((m * b : Int) : Rat) := by
      rw [Rat.intCast_mul, Rat.intCast_mul, h.val, ← e]
      grind
    exact_mod_cast this
  have d : b ∣ a * n := ⟨m, by rw [Int.mul_comm, k, Int.mul_comm]⟩
  exact dvd_cop (by rw [Int.gcd_comm]; exact h.low) d
/-! ### sums of triangles round a spot -/
theorem prW_dvd2 : ∀ {cs : List C3} {i j : Nat} {a b : C3}, i < j → cs[i]? = some a → cs[j]? = some b → a.2.2 * b.2.2 ∣ prW cs
  | [], _, _, _, _, _, h, _ => by simp at h
  | c :: t, 0, j + 1, a, b, _, h1, h2 => by
    simp at h1 h2
    subst h1
    obtain ⟨k, e⟩ := prW_dvd (List.mem_of_getElem? h2)
    exact ⟨k, by show prW t * c.2.2 = _; rw [e]; grind⟩
  | c :: t, i + 1, j + 1, a, b, h, h1, h2 => by
    simp at h1 h2
    obtain ⟨k, e⟩ := prW_dvd2 (cs := t) (show i < j by omega) h1 h2
    exact ⟨k * c.2.2, by show prW t * c.2.2 = _; rw [e]; grind⟩
theorem fr_add {x y : Rat} {a b c d : Int} (h : Fr x a b) (hd : 0 < d) (e : (c : Rat) = y * d) : ∃ A B : Int, frD (a * d + c * b) (b * d) = P2 A B ∧ Fr (x + y) A B := by
  have nb : b * d ≠ 0 := Int.mul_ne_zero (by have := h.pos; omega) (by omega)
  have k := fr_of (f := (a * d + c * b, b * d)) nb
  have e1 : vq (a * d + c * b, b * d) = x + y := by
    unfold vq
    simp only [Rat.intCast_add, Rat.intCast_mul]
    rw [h.val, e]
    have p1 := q_ne h.pos
    have p2 := q_ne hd
    generalize (b : Rat) = B at *
    generalize (d : Rat) = F at *
    grind
  rw [e1] at k
  exact ⟨_, _, k.1, k.2⟩
/-- the sum so far, round from the last corner -/
def twS (s : C3) (z : C3) (cs : List C3) (k : Nat) : Rat := Su (tq s) ((z :: cs).take (k + 1))
theorem twS_step {s z : C3} {cs : List C3} {k : Nat} {a b : C3} (h1 : (z :: cs)[k]? = some a) (h2 : cs[k]? = some b) : twS s z cs (k + 1) = twS s z cs k + tq s a b := by
  unfold twS
  have hb : (z :: cs)[k + 1]? = some b := by simpa using h2
  have e1 : (z :: cs).take (k + 1) = (z :: cs).take k ++ [a] := by rw [List.take_add_one, h1]; rfl
  have e2 : (z :: cs).take (k + 1 + 1) = (z :: cs).take k ++ a :: [b] := by rw [List.take_add_one, hb, e1, List.append_assoc]; rfl
  rw [e2, Su.app, e1]
  simp [Su, Rat.add_zero]
theorem twS_zero (s z : C3) (cs : List C3) : twS s z cs 0 = 0 := by unfold twS; simp [Su]
theorem twS_all {s z : C3} {cs : List C3} (hz : cs.getLast? = some z) : twS s z cs cs.length = ar2 cs := by
  obtain ⟨t, rfl⟩ := List.getLast?_eq_some_iff.mp hz
  unfold twS ar2
  rw [List.take_of_length_le (by simp), ← Rs.base s, Rs.rot (⟨t, [z], rfl, rfl⟩ : Rot (t ++ [z]) ([z] ++ t))]
  rfl
theorem twS_whole {s z : C3} {cs : List C3} (hz : cs.getLast? = some z) (h2 : 2 ≤ cs.length) (ws : s.2.2 = 1) (hw : ∀ c ∈ cs, 0 < c.2.2) : ∀ k, k ≤ cs.length → ∃ m : Int, ((prW cs : Int) : Rat) * twS s z cs k = (m : Rat)
  | 0, _ => ⟨0, by rw [twS_zero]; simp [Rat.mul_zero]⟩
  | k + 1, hk => by
    obtain ⟨m, e⟩ := twS_whole hz h2 ws hw k (by omega)
    have ec : cs[k]? = some (gC cs k) := get_gC (by omega)
    have ez : (z :: cs)[k]? = some (gC (z :: cs) k) := get_gC (by simp only [List.length_cons]; omega)
    have mc := List.mem_of_getElem? ec
    have mz : gC (z :: cs) k ∈ cs := by
      rcases List.mem_cons.mp (List.mem_of_getElem? ez) with q | q
      · rw [q]; exact List.mem_of_getLast? hz
      · exact q
    have dv : (gC (z :: cs) k).2.2 * (gC cs k).2.2 ∣ prW cs := by
      match k, ec, ez with
      | 0, ec, ez =>
        have e0 : gC (z :: cs) 0 = z := rfl
        have el : cs[cs.length - 1]? = some z := by rw [← List.getLast?_eq_getElem?]; exact hz
        rw [e0, Int.mul_comm]
        exact prW_dvd2 (i := 0) (j := cs.length - 1) (by omega) ec el
      | k + 1, ec, ez => exact prW_dvd2 (i := k) (j := k + 1) (by omega) (by simpa using ez) ec
    obtain ⟨q, eq⟩ := dv
    rw [twS_step ez ec]
    have t := tq_dt (o := s) (c := gC (z :: cs) k) (d := gC cs k) (by omega) (hw _ mz) (hw _ mc)
    rw [ws] at t
    refine ⟨m + q * dt s (gC (z :: cs) k) (gC cs k), ?_⟩
    rw [Rat.intCast_add, Rat.intCast_mul, ← e, ← t, eq]
    simp only [Rat.intCast_mul]
    rw [show ((1 : Int) : Rat) = 1 from rfl]
    generalize ((gC (z :: cs) k).2.2 : Rat) = u
    generalize ((gC cs k).2.2 : Rat) = v
    generalize tq s (gC (z :: cs) k) (gC cs k) = w
    generalize twS s z cs k = y
    grind

local macro_rules | `(tactic| walk_at "dl") => `(tactic| simp -dsimp only [↓q_seq, ↓q_asg, ↓q_asgO, ↓q_drop, ↓q_ret, ↓q_retN, ↓q_ifS, ↓q_next, ↓q_brk, ↓q_cnt, ↓q_never, ↓q_putI, ↓q_par, ↓q_par3, ↓q_asgT, ↓q_for, ↓q_for0, ↓q_forS, ↓q_while, ↓stp_ap, ↓stp2_ap, ↓sif_t, ↓sif_f, ↓q_c, ↓q_op, ↓q_un, ↓q_cb, ↓q_call, ↓q_callM, ↓q_callMF, ↓q_tup, ↓q_lst, ↓q_cons, ↓q_nil, ↓q_test, ↓q_not, ↓q_and, ↓q_or, ↓q_andV, ↓q_orV, ↓q_if, ↓q_isN, ↓q_notN, ↓q_I, ↓q_I0, ↓q_eqI, ↓q_neI, ↓q_eqB, ↓q_neB, ↓q_eqLL, ↓q_neLL, ↓q_eqLT, ↓q_neLT, ↓q_eqLN, ↓q_neLN, ↓q_eqLS, ↓q_neLS, ↓q_eqTL, ↓q_neTL, ↓q_eqTT, ↓q_neTT, ↓q_eqTN, ↓q_neTN, ↓q_eqTS, ↓q_neTS, ↓q_eqNL, ↓q_neNL, ↓q_eqNT, ↓q_neNT, ↓q_eqNN, ↓q_neNN, ↓q_eqNS, ↓q_neNS, ↓q_eqSL, ↓q_neSL, ↓q_eqST, ↓q_neST, ↓q_eqSN, ↓q_neSN, ↓q_eqSS, ↓q_neSS, ↓q_ixL, ↓q_ixT, ↓q_neg, ↓q_gnot, ↓q_lenL, ↓q_lenT, ↓q_abs, ↓q_max2, ↓q_min2, ↓q_int, ↓q_intB, ↓q_listL, ↓q_listT, ↓q_ii, ↓q_ib, ↓q_it, ↓q_bb, ↓q_bi, ↓q_tt, ↓q_ll, ↓q_tl, ↓q_nt, ↓q_tn, ↓q_ttT, ↓q_tlL, ↓q_tnil, ↓q_tcons, ↓q_iL, ↓q_iT, ↓q_R1, ↓q_R2, ↓q_comp, ↓q_comp0, ↓q_compS, ↓q_yes, ↓q_cat, ↓q_sl, ↓q_oN, ↓q_oS, ↓q_rev, ↓q_chain, ↓q_nlen, ↓q_aug, ↓q_loop, ↓q_fnE, ↓q_fnM, ↓ex_int, ↓ex_lst, ↓ex_tup, ↓ex_2, ↓ex_3, ↓ex_1i, ↓ex_2i, ↓ex_2l, ↓ex_at, ↓wipeK_nil, ↓wipeK_cons, ↓backK_nil, ↓backK_cons, ↓keepV_no, ↓keepV_v, ↓keepV_o, ↓keepV_l, ↓lm0, ↓q_raise, ↓q_try, ↓q_hNil, ↓q_hAs, ↓q_hOn, ↓q_exc0, ↓q_exc1, ↓q_unset, ↓q_quiet, ↓q_iscE, ↓q_iscN, ↓q_iscI, ↓q_iscB, ↓q_iscS, ↓q_iscL, ↓q_iscT, ↓q_at, ↓isNon_exc, ↓sub_land, ↓sub_val, ↓sub_self, ↓sub_LandError_NoNumber, ↓sub_LandError_NoLine, ↓sub_LandError_NoBox, ↓sub_LandError_TooMany, ↓sub_LandError_NoSpot, ↓sub_LandError_NoName, ↓sub_LandError_Taken, ↓sub_LandError_Unknown, ↓sub_LandError_NoDeed, ↓sub_LandError_NoLot, ↓sub_LandError_NoCount, ↓sub_LandError_NoWeights, ↓sub_LandError_NoText, ↓sub_LandError_NoRow, ↓sub_NoNumber_NoLine, ↓sub_NoNumber_NoBox, ↓sub_NoNumber_TooMany, ↓sub_NoNumber_NoSpot, ↓sub_NoNumber_NoName, ↓sub_NoNumber_Taken, ↓sub_NoNumber_Unknown, ↓sub_NoNumber_NoDeed, ↓sub_NoNumber_NoLot, ↓sub_NoNumber_NoCount, ↓sub_NoNumber_NoWeights, ↓sub_NoNumber_NoText, ↓sub_NoNumber_NoRow, ↓sub_NoLine_NoNumber, ↓sub_NoLine_NoBox, ↓sub_NoLine_TooMany, ↓sub_NoLine_NoSpot, ↓sub_NoLine_NoName, ↓sub_NoLine_Taken, ↓sub_NoLine_Unknown, ↓sub_NoLine_NoDeed, ↓sub_NoLine_NoLot, ↓sub_NoLine_NoCount, ↓sub_NoLine_NoWeights, ↓sub_NoLine_NoText, ↓sub_NoLine_NoRow, ↓sub_NoBox_NoNumber, ↓sub_NoBox_NoLine, ↓sub_NoBox_TooMany, ↓sub_NoBox_NoSpot, ↓sub_NoBox_NoName, ↓sub_NoBox_Taken, ↓sub_NoBox_Unknown, ↓sub_NoBox_NoDeed, ↓sub_NoBox_NoLot, ↓sub_NoBox_NoCount, ↓sub_NoBox_NoWeights, ↓sub_NoBox_NoText, ↓sub_NoBox_NoRow, ↓sub_TooMany_NoNumber, ↓sub_TooMany_NoLine, ↓sub_TooMany_NoBox, ↓sub_TooMany_NoSpot, ↓sub_TooMany_NoName, ↓sub_TooMany_Taken, ↓sub_TooMany_Unknown, ↓sub_TooMany_NoDeed, ↓sub_TooMany_NoLot, ↓sub_TooMany_NoCount, ↓sub_TooMany_NoWeights, ↓sub_TooMany_NoText, ↓sub_TooMany_NoRow, ↓sub_NoSpot_NoNumber, ↓sub_NoSpot_NoLine, ↓sub_NoSpot_NoBox, ↓sub_NoSpot_TooMany, ↓sub_NoSpot_NoName, ↓sub_NoSpot_Taken, ↓sub_NoSpot_Unknown, ↓sub_NoSpot_NoDeed, ↓sub_NoSpot_NoLot, ↓sub_NoSpot_NoCount, ↓sub_NoSpot_NoWeights, ↓sub_NoSpot_NoText, ↓sub_NoSpot_NoRow, ↓sub_NoName_NoNumber, ↓sub_NoName_NoLine, ↓sub_NoName_NoBox, ↓sub_NoName_TooMany, ↓sub_NoName_NoSpot, ↓sub_NoName_Taken, ↓sub_NoName_Unknown, ↓sub_NoName_NoDeed, ↓sub_NoName_NoLot, ↓sub_NoName_NoCount, ↓sub_NoName_NoWeights, ↓sub_NoName_NoText, ↓sub_NoName_NoRow, ↓sub_Taken_NoNumber, ↓sub_Taken_NoLine, ↓sub_Taken_NoBox, ↓sub_Taken_TooMany, ↓sub_Taken_NoSpot, ↓sub_Taken_NoName, ↓sub_Taken_Unknown, ↓sub_Taken_NoDeed, ↓sub_Taken_NoLot, ↓sub_Taken_NoCount, ↓sub_Taken_NoWeights, ↓sub_Taken_NoText, ↓sub_Taken_NoRow, ↓sub_Unknown_NoNumber, ↓sub_Unknown_NoLine, ↓sub_Unknown_NoBox, ↓sub_Unknown_TooMany, ↓sub_Unknown_NoSpot, ↓sub_Unknown_NoName, ↓sub_Unknown_Taken, ↓sub_Unknown_NoDeed, ↓sub_Unknown_NoLot, ↓sub_Unknown_NoCount, ↓sub_Unknown_NoWeights, ↓sub_Unknown_NoText, ↓sub_Unknown_NoRow, ↓sub_NoDeed_NoNumber, ↓sub_NoDeed_NoLine, ↓sub_NoDeed_NoBox, ↓sub_NoDeed_TooMany, ↓sub_NoDeed_NoSpot, ↓sub_NoDeed_NoName, ↓sub_NoDeed_Taken, ↓sub_NoDeed_Unknown, ↓sub_NoDeed_NoLot, ↓sub_NoDeed_NoCount, ↓sub_NoDeed_NoWeights, ↓sub_NoDeed_NoText, ↓sub_NoDeed_NoRow, ↓sub_NoLot_NoNumber, ↓sub_NoLot_NoLine, ↓sub_NoLot_NoBox, ↓sub_NoLot_TooMany, ↓sub_NoLot_NoSpot, ↓sub_NoLot_NoName, ↓sub_NoLot_Taken, ↓sub_NoLot_Unknown, ↓sub_NoLot_NoDeed, ↓sub_NoLot_NoCount, ↓sub_NoLot_NoWeights, ↓sub_NoLot_NoText, ↓sub_NoLot_NoRow, ↓sub_NoCount_NoNumber, ↓sub_NoCount_NoLine, ↓sub_NoCount_NoBox, ↓sub_NoCount_TooMany, ↓sub_NoCount_NoSpot, ↓sub_NoCount_NoName, ↓sub_NoCount_Taken, ↓sub_NoCount_Unknown, ↓sub_NoCount_NoDeed, ↓sub_NoCount_NoLot, ↓sub_NoCount_NoWeights, ↓sub_NoCount_NoText, ↓sub_NoCount_NoRow, ↓sub_NoWeights_NoNumber, ↓sub_NoWeights_NoLine, ↓sub_NoWeights_NoBox, ↓sub_NoWeights_TooMany, ↓sub_NoWeights_NoSpot, ↓sub_NoWeights_NoName, ↓sub_NoWeights_Taken, ↓sub_NoWeights_Unknown, ↓sub_NoWeights_NoDeed, ↓sub_NoWeights_NoLot, ↓sub_NoWeights_NoCount, ↓sub_NoWeights_NoText, ↓sub_NoWeights_NoRow, ↓sub_NoText_NoNumber, ↓sub_NoText_NoLine, ↓sub_NoText_NoBox, ↓sub_NoText_TooMany, ↓sub_NoText_NoSpot, ↓sub_NoText_NoName, ↓sub_NoText_Taken, ↓sub_NoText_Unknown, ↓sub_NoText_NoDeed, ↓sub_NoText_NoLot, ↓sub_NoText_NoCount, ↓sub_NoText_NoWeights, ↓sub_NoText_NoRow, ↓sub_NoRow_NoNumber, ↓sub_NoRow_NoLine, ↓sub_NoRow_NoBox, ↓sub_NoRow_TooMany, ↓sub_NoRow_NoSpot, ↓sub_NoRow_NoName, ↓sub_NoRow_Taken, ↓sub_NoRow_Unknown, ↓sub_NoRow_NoDeed, ↓sub_NoRow_NoLot, ↓sub_NoRow_NoCount, ↓sub_NoRow_NoWeights, ↓sub_NoRow_NoText, ↓q_meth, ↓ex_isl, ↓q_lcnt, ↓q_raiseA, ↓q_inT, ↓q_notinT, ↓q_revT, ↓ex_tup2, ↓q_popE, ↓q_popAt, ↓q_lrng1, ↓q_lrng2, ↓q_tupO, ↓q_opn, ↓q_maxT3, ↓q_nmax, ↓q_zip, ↓q_rep, ↓q_lsG, ↓q_lenSet, ↓q_nop, ↓q_nisi, ↓q_in, ↓q_notin, ↓q_ins, ↓q_chg, ↓q_ext, ↓q_ptS, ↓q_ls, ↓q_nkey, ↓q_putK, ↓q_putT, ↓q_disp, ↓q_newT, ↓q_fc, ↓q_fa, ↓q_fl, ↓q_pa, ↓q_pl, ↓k_vv0, ↓k_vv1, ↓k_vv2, ↓k_vv3, ↓k_vv4, ↓k_vv5, ↓k_vv6, ↓k_vv7, ↓k_vv8, ↓k_vv9, ↓k_vv10, ↓k_vv11, ↓k_vv12, ↓k_vv13, ↓k_vv14, ↓k_vv15, ↓k_vv16, ↓k_vv17, ↓k_vv18, ↓k_vv19, ↓k_vv20, ↓k_vv21, ↓k_vv22, ↓k_vv23, ↓k_vv24, ↓k_vv25, ↓k_vo0, ↓k_vo1, ↓k_vo2, ↓k_vo3, ↓k_vo4, ↓k_vo5, ↓k_vo6, ↓k_vo7, ↓k_vo8, ↓k_vo9, ↓k_vo10, ↓k_vo11, ↓k_vo12, ↓k_vo13, ↓k_vo14, ↓k_vo15, ↓k_vo16, ↓k_vo17, ↓k_vo18, ↓k_vo19, ↓k_vo20, ↓k_vo21, ↓k_vo22, ↓k_vo23, ↓k_vo24, ↓k_vo25, ↓k_sk0, ↓k_sk1, ↓k_sk2, ↓k_sk3, ↓k_sk4, ↓k_sk5, ↓k_sk6, ↓k_sk7, ↓k_sk8, ↓k_sk9, ↓k_sk10, ↓k_sk11, ↓k_sk12, ↓k_sk13, ↓k_sk14, ↓k_sk15, ↓k_sk16, ↓k_sk17, ↓k_sk18, ↓k_sk19, ↓k_sk20, ↓k_sk21, ↓k_sk22, ↓k_sk23, ↓k_sk24, ↓k_sk25, ↓k_rv0, ↓k_rv1, ↓k_rv2, ↓k_rv3, ↓k_rv4, ↓k_rv5, ↓k_rv6, ↓k_rv7, ↓k_rv8, ↓k_rv9, ↓k_rv10, ↓k_rv11, ↓k_rv12, ↓k_rv13, ↓k_rv14, ↓k_rv15, ↓k_rv16, ↓k_rv17, ↓k_rv18, ↓k_rv19, ↓k_rv20, ↓k_rv21, ↓k_rv22, ↓k_rv23, ↓k_rv24, ↓k_rv25, ↓k_ro0, ↓k_ro1, ↓k_ro2, ↓k_ro3, ↓k_ro4, ↓k_ro5, ↓k_ro6, ↓k_ro7, ↓k_ro8, ↓k_ro9, ↓k_ro10, ↓k_ro11, ↓k_ro12, ↓k_ro13, ↓k_ro14, ↓k_ro15, ↓k_ro16, ↓k_ro17, ↓k_ro18, ↓k_ro19, ↓k_ro20, ↓k_ro21, ↓k_ro22, ↓k_ro23, ↓k_ro24, ↓k_ro25, ↓k_rl0, ↓k_rl1, ↓k_rl2, ↓k_rl3, ↓k_rl4, ↓k_rl5, ↓k_rl6, ↓k_rl7, ↓k_rl8, ↓k_rl9, ↓k_rl10, ↓k_rl11, ↓k_rl12, ↓k_rl13, ↓k_rl14, ↓k_rl15, ↓k_rl16, ↓k_rl17, ↓k_rl18, ↓k_rl19, ↓k_rl20, ↓k_rl21, ↓k_rl22, ↓k_rl23, ↓k_rl24, ↓k_rl25, ↓k_oo0, ↓k_oo1, ↓k_oo2, ↓k_oo3, ↓k_oo4, ↓k_oo5, ↓k_oo6, ↓k_oo7, ↓k_oo8, ↓k_oo9, ↓k_oo10, ↓k_oo11, ↓k_oo12, ↓k_oo13, ↓k_oo14, ↓k_oo15, ↓k_oo16, ↓k_oo17, ↓k_oo18, ↓k_oo19, ↓k_oo20, ↓k_oo21, ↓k_oo22, ↓k_oo23, ↓k_oo24, ↓k_oo25, ↓k_ol0, ↓k_ol1, ↓k_ol2, ↓k_ol3, ↓k_ol4, ↓k_ol5, ↓k_ol6, ↓k_ol7, ↓k_ol8, ↓k_ol9, ↓k_ol10, ↓k_ol11, ↓k_ol12, ↓k_ol13, ↓k_ol14, ↓k_ol15, ↓k_ol16, ↓k_ol17, ↓k_ol18, ↓k_ol19, ↓k_ol20, ↓k_ol21, ↓k_ol22, ↓k_ol23, ↓k_ol24, ↓k_ol25, ↓k_lo0, ↓k_lo1, ↓k_lo2, ↓k_lo3, ↓k_lo4, ↓k_lo5, ↓k_lo6, ↓k_lo7, ↓k_lo8, ↓k_lo9, ↓k_lo10, ↓k_lo11, ↓k_lo12, ↓k_lo13, ↓k_lo14, ↓k_lo15, ↓k_lo16, ↓k_lo17, ↓k_lo18, ↓k_lo19, ↓k_lo20, ↓k_lo21, ↓k_lo22, ↓k_lo23, ↓k_lo24, ↓k_lo25, ↓k_ll0, ↓k_ll1, ↓k_ll2, ↓k_ll3, ↓k_ll4, ↓k_ll5, ↓k_ll6, ↓k_ll7, ↓k_ll8, ↓k_ll9, ↓k_ll10, ↓k_ll11, ↓k_ll12, ↓k_ll13, ↓k_ll14, ↓k_ll15, ↓k_ll16, ↓k_ll17, ↓k_ll18, ↓k_ll19, ↓k_ll20, ↓k_ll21, ↓k_ll22, ↓k_ll23, ↓k_ll24, ↓k_ll25, ↓k_ho0, ↓k_ho1, ↓k_ho2, ↓k_ho3, ↓k_ho4, ↓k_ho5, ↓k_ho6, ↓k_ho7, ↓k_ho8, ↓k_ho9, ↓k_ho10, ↓k_ho11, ↓k_ho12, ↓k_ho13, ↓k_ho14, ↓k_ho15, ↓k_ho16, ↓k_ho17, ↓k_ho18, ↓k_ho19, ↓k_ho20, ↓k_ho21, ↓k_ho22, ↓k_ho23, ↓k_ho24, ↓k_ho25, ↓k_hl0, ↓k_hl1, ↓k_hl2, ↓k_hl3, ↓k_hl4, ↓k_hl5, ↓k_hl6, ↓k_hl7, ↓k_hl8, ↓k_hl9, ↓k_hl10, ↓k_hl11, ↓k_hl12, ↓k_hl13, ↓k_hl14, ↓k_hl15, ↓k_hl16, ↓k_hl17, ↓k_hl18, ↓k_hl19, ↓k_hl20, ↓k_hl21, ↓k_hl22, ↓k_hl23, ↓k_hl24, ↓k_hl25, ↓k_po0, ↓k_po1, ↓k_po2, ↓k_po3, ↓k_po4, ↓k_po5, ↓k_po6, ↓k_po7, ↓k_po8, ↓k_po9, ↓k_po10, ↓k_po11, ↓k_po12, ↓k_po13, ↓k_po14, ↓k_po15, ↓k_po16, ↓k_po17, ↓k_po18, ↓k_po19, ↓k_po20, ↓k_po21, ↓k_po22, ↓k_po23, ↓k_po24, ↓k_po25, ↓k_pl0, ↓k_pl1, ↓k_pl2, ↓k_pl3, ↓k_pl4, ↓k_pl5, ↓k_pl6, ↓k_pl7, ↓k_pl8, ↓k_pl9, ↓k_pl10, ↓k_pl11, ↓k_pl12, ↓k_pl13, ↓k_pl14, ↓k_pl15, ↓k_pl16, ↓k_pl17, ↓k_pl18, ↓k_pl19, ↓k_pl20, ↓k_pl21, ↓k_pl22, ↓k_pl23, ↓k_pl24, ↓k_pl25, ↓k_kk0, ↓k_kk1, ↓k_kk2, ↓k_kk3, ↓k_kk4, ↓k_kk5, ↓k_kk6, ↓k_kk7, ↓k_kk8, ↓k_kk9, ↓k_kk10, ↓k_kk11, ↓k_kk12, ↓k_kk13, ↓k_kk14, ↓k_kk15, ↓k_kk16, ↓k_kk17, ↓k_kk18, ↓k_kk19, ↓k_kk20, ↓k_kk21, ↓k_kk22, ↓k_kk23, ↓k_kk24, ↓k_kk25, ↓k_nv0, ↓k_nv1, ↓k_nv2, ↓k_nv3, ↓k_nv4, ↓k_nv5, ↓k_nv6, ↓k_nv7, ↓k_nv8, ↓k_nv9, ↓k_nv10, ↓k_nv11, ↓k_nv12, ↓k_nv13, ↓k_nv14, ↓k_nv15, ↓k_nv16, ↓k_nv17, ↓k_nv18, ↓k_nv19, ↓k_nv20, ↓k_nv21, ↓k_nv22, ↓k_nv23, ↓k_nv24, ↓k_nv25, ↓k_no0, ↓k_no1, ↓k_no2, ↓k_no3, ↓k_no4, ↓k_no5, ↓k_no6, ↓k_no7, ↓k_no8, ↓k_no9, ↓k_no10, ↓k_no11, ↓k_no12, ↓k_no13, ↓k_no14, ↓k_no15, ↓k_no16, ↓k_no17, ↓k_no18, ↓k_no19, ↓k_no20, ↓k_no21, ↓k_no22, ↓k_no23, ↓k_no24, ↓k_no25, ↓k_nl0, ↓k_nl1, ↓k_nl2, ↓k_nl3, ↓k_nl4, ↓k_nl5, ↓k_nl6, ↓k_nl7, ↓k_nl8, ↓k_nl9, ↓k_nl10, ↓k_nl11, ↓k_nl12, ↓k_nl13, ↓k_nl14, ↓k_nl15, ↓k_nl16, ↓k_nl17, ↓k_nl18, ↓k_nl19, ↓k_nl20, ↓k_nl21, ↓k_nl22, ↓k_nl23, ↓k_nl24, ↓k_nl25, ↓k_ao0, ↓k_ao1, ↓k_ao2, ↓k_ao3, ↓k_ao4, ↓k_ao5, ↓k_ao6, ↓k_ao7, ↓k_ao8, ↓k_ao9, ↓k_ao10, ↓k_ao11, ↓k_ao12, ↓k_ao13, ↓k_ao14, ↓k_ao15, ↓k_ao16, ↓k_ao17, ↓k_ao18, ↓k_ao19, ↓k_ao20, ↓k_ao21, ↓k_ao22, ↓k_ao23, ↓k_ao24, ↓k_ao25, ↓k_al0, ↓k_al1, ↓k_al2, ↓k_al3, ↓k_al4, ↓k_al5, ↓k_al6, ↓k_al7, ↓k_al8, ↓k_al9, ↓k_al10, ↓k_al11, ↓k_al12, ↓k_al13, ↓k_al14, ↓k_al15, ↓k_al16, ↓k_al17, ↓k_al18, ↓k_al19, ↓k_al20, ↓k_al21, ↓k_al22, ↓k_al23, ↓k_al24, ↓k_al25, ↓k_ro_0, ↓k_ro_1, ↓k_ro_2, ↓k_ro_3, ↓k_ro_4, ↓k_ro_5, ↓k_ro_6, ↓k_ro_7, ↓k_ro_8, ↓k_ro_9, ↓k_ro_10, ↓k_ro_11, ↓k_ro_12, ↓k_ro_13, ↓k_ro_14, ↓k_ro_15, ↓k_ro_16, ↓k_ro_17, ↓k_ro_18, ↓k_ro_19, ↓k_ro_20, ↓k_ro_21, ↓k_ro_22, ↓k_ro_23, ↓k_ro_24, ↓k_ro_25, ↓k_au0, ↓k_au1, ↓k_au2, ↓k_au3, ↓k_au4, ↓k_au5, ↓k_au6, ↓k_au7, ↓k_au8, ↓k_au9, ↓k_au10, ↓k_au11, ↓k_au12, ↓k_au13, ↓k_au14, ↓k_au15, ↓k_au16, ↓k_au17, ↓k_au18, ↓k_au19, ↓k_au20, ↓k_au21, ↓k_au22, ↓k_au23, ↓k_au24, ↓k_au25, ↓rg0, ↓rg1, ↓rg2, ↓rg3, ↓rg4, ↓rg5, ↓rg6, ↓rg7, ↓rg8, ↓xs1_0, ↓xs2_0, ↓xs2_1, ↓xs3_0, ↓xs3_1, ↓xs3_2, ↓xs4_0, ↓xs4_1, ↓xs4_2, ↓xs4_3, ↓xs5_0, ↓xs5_1, ↓xs5_2, ↓xs5_3, ↓xs5_4, ↓ak1_m1, ↓ak1_0, ↓ak2_m2, ↓ak2_m1, ↓ak2_0, ↓ak2_1, ↓ak3_m3, ↓ak3_m2, ↓ak3_m1, ↓ak3_0, ↓ak3_1, ↓ak3_2, ↓ak4_m4, ↓ak4_m3, ↓ak4_m2, ↓ak4_m1, ↓ak4_0, ↓ak4_1, ↓ak4_2, ↓ak4_3, ↓ak5_m5, ↓ak5_m4, ↓ak5_m3, ↓ak5_m2, ↓ak5_m1, ↓ak5_0, ↓ak5_1, ↓ak5_2, ↓ak5_3, ↓ak5_4, ↓ak6_m6, ↓ak6_m5, ↓ak6_m4, ↓ak6_m3, ↓ak6_m2, ↓ak6_m1, ↓ak6_0, ↓ak6_1, ↓ak6_2, ↓ak6_3, ↓ak6_4, ↓ak6_5, ↓bk0, ↓bk1, ↓bk2, ↓bk3, ↓bk4, ↓bk5, ↓bk6, ↓bk7, ↓bk8, ↓at2_0, ↓at2_1, ↓at3_0, ↓at3_1, ↓at3_2, ↓at4_0, ↓at4_1, ↓at4_2, ↓at4_3, q_dispF, Int.cast_ofNat_Int, List.all_cons, List.all_nil, List.any_cons, List.any_nil, id_eq, Bool.or_false, Bool.false_or, Bool.or_true, Bool.true_or, sif_t, sif_f, eqd_str, eqd_lst, eqd_tup, eqds_nil, eqds_cons, eqds_cn, eqds_nc, eqd_nn, eqd_nt, eqd_tn, beq_self_eq_true, Bool.true_and, Bool.and_true, Bool.false_and, Bool.and_false, eq_self, decide_true, decide_false, Int.reduceLE, Int.reduceLT, Int.reduceEq, Int.reduceNe, Nat.reduceAdd, Nat.reducePow, Nat.reduceLeDiff, bls_nil, bls_cons, ix3_0, ix3_1, ix3_2, ix2_0, ix2_1, eqd_int, shp_int, DL.isNon, CPow, List.length_cons, List.length_nil, List.length_map, Option.map_some, Option.some.injEq, exists_eq_left', exists_eq_left, true_and, and_true, if_true, if_false, Bool.false_eq_true, decide_eq_true_eq, Bool.not_eq_true', decide_eq_false_iff_not, List.cons_append, List.nil_append, List.set_cons_zero, List.set_cons_succ, Bool.not_true, Bool.not_false, ite_true, ite_false, Int.reduceToNat, Int.reducePow, Int.reduceNeg, Int.reduceMul, Int.reduceAdd, Int.reduceSub])
local macro_rules | `(tactic| walk_at "dn") => `(tactic| simp -dsimp only [↓q_seq, ↓q_asg, ↓q_asgO, ↓q_drop, ↓q_ret, ↓q_retN, ↓q_ifS, ↓q_next, ↓q_brk, ↓q_cnt, ↓q_never, ↓q_putI, ↓q_par, ↓q_par3, ↓q_asgT, ↓q_for, ↓q_for0, ↓q_while, ↓stp_ap, ↓stp2_ap, ↓sif_t, ↓sif_f, ↓q_c, ↓q_op, ↓q_un, ↓q_cb, ↓q_call, ↓q_callM, ↓q_callMF, ↓q_tup, ↓q_lst, ↓q_cons, ↓q_nil, ↓q_test, ↓q_not, ↓q_and, ↓q_or, ↓q_andV, ↓q_orV, ↓q_if, ↓q_isN, ↓q_notN, ↓q_I, ↓q_I0, ↓q_eqI, ↓q_neI, ↓q_eqB, ↓q_neB, ↓q_eqLL, ↓q_neLL, ↓q_eqLT, ↓q_neLT, ↓q_eqLN, ↓q_neLN, ↓q_eqLS, ↓q_neLS, ↓q_eqTL, ↓q_neTL, ↓q_eqTT, ↓q_neTT, ↓q_eqTN, ↓q_neTN, ↓q_eqTS, ↓q_neTS, ↓q_eqNL, ↓q_neNL, ↓q_eqNT, ↓q_neNT, ↓q_eqNN, ↓q_neNN, ↓q_eqNS, ↓q_neNS, ↓q_eqSL, ↓q_neSL, ↓q_eqST, ↓q_neST, ↓q_eqSN, ↓q_neSN, ↓q_eqSS, ↓q_neSS, ↓q_ixL, ↓q_ixT, ↓q_neg, ↓q_gnot, ↓q_lenL, ↓q_lenT, ↓q_abs, ↓q_max2, ↓q_min2, ↓q_int, ↓q_intB, ↓q_listL, ↓q_listT, ↓q_ii, ↓q_ib, ↓q_it, ↓q_bb, ↓q_bi, ↓q_tt, ↓q_ll, ↓q_tl, ↓q_nt, ↓q_tn, ↓q_ttT, ↓q_tlL, ↓q_tnil, ↓q_tcons, ↓q_iL, ↓q_iT, ↓q_R1, ↓q_R2, ↓q_comp, ↓q_comp0, ↓q_compS, ↓q_yes, ↓q_cat, ↓q_sl, ↓q_oN, ↓q_oS, ↓q_rev, ↓q_chain, ↓q_nlen, ↓q_aug, ↓q_loop, ↓q_fnE, ↓q_fnM, ↓ex_int, ↓ex_lst, ↓ex_tup, ↓ex_2, ↓ex_3, ↓ex_1i, ↓ex_2i, ↓ex_2l, ↓ex_at, ↓wipeK_nil, ↓wipeK_cons, ↓backK_nil, ↓backK_cons, ↓keepV_no, ↓keepV_v, ↓keepV_o, ↓keepV_l, ↓lm0, ↓q_raise, ↓q_try, ↓q_hNil, ↓q_hAs, ↓q_hOn, ↓q_exc0, ↓q_exc1, ↓q_unset, ↓q_quiet, ↓q_iscE, ↓q_iscN, ↓q_iscI, ↓q_iscB, ↓q_iscS, ↓q_iscL, ↓q_iscT, ↓q_at, ↓isNon_exc, ↓sub_land, ↓sub_val, ↓sub_self, ↓sub_LandError_NoNumber, ↓sub_LandError_NoLine, ↓sub_LandError_NoBox, ↓sub_LandError_TooMany, ↓sub_LandError_NoSpot, ↓sub_LandError_NoName, ↓sub_LandError_Taken, ↓sub_LandError_Unknown, ↓sub_LandError_NoDeed, ↓sub_LandError_NoLot, ↓sub_LandError_NoCount, ↓sub_LandError_NoWeights, ↓sub_LandError_NoText, ↓sub_LandError_NoRow, ↓sub_NoNumber_NoLine, ↓sub_NoNumber_NoBox, ↓sub_NoNumber_TooMany, ↓sub_NoNumber_NoSpot, ↓sub_NoNumber_NoName, ↓sub_NoNumber_Taken, ↓sub_NoNumber_Unknown, ↓sub_NoNumber_NoDeed, ↓sub_NoNumber_NoLot, ↓sub_NoNumber_NoCount, ↓sub_NoNumber_NoWeights, ↓sub_NoNumber_NoText, ↓sub_NoNumber_NoRow, ↓sub_NoLine_NoNumber, ↓sub_NoLine_NoBox, ↓sub_NoLine_TooMany, ↓sub_NoLine_NoSpot, ↓sub_NoLine_NoName, ↓sub_NoLine_Taken, ↓sub_NoLine_Unknown, ↓sub_NoLine_NoDeed, ↓sub_NoLine_NoLot, ↓sub_NoLine_NoCount, ↓sub_NoLine_NoWeights, ↓sub_NoLine_NoText, ↓sub_NoLine_NoRow, ↓sub_NoBox_NoNumber, ↓sub_NoBox_NoLine, ↓sub_NoBox_TooMany, ↓sub_NoBox_NoSpot, ↓sub_NoBox_NoName, ↓sub_NoBox_Taken, ↓sub_NoBox_Unknown, ↓sub_NoBox_NoDeed, ↓sub_NoBox_NoLot, ↓sub_NoBox_NoCount, ↓sub_NoBox_NoWeights, ↓sub_NoBox_NoText, ↓sub_NoBox_NoRow, ↓sub_TooMany_NoNumber, ↓sub_TooMany_NoLine, ↓sub_TooMany_NoBox, ↓sub_TooMany_NoSpot, ↓sub_TooMany_NoName, ↓sub_TooMany_Taken, ↓sub_TooMany_Unknown, ↓sub_TooMany_NoDeed, ↓sub_TooMany_NoLot, ↓sub_TooMany_NoCount, ↓sub_TooMany_NoWeights, ↓sub_TooMany_NoText, ↓sub_TooMany_NoRow, ↓sub_NoSpot_NoNumber, ↓sub_NoSpot_NoLine, ↓sub_NoSpot_NoBox, ↓sub_NoSpot_TooMany, ↓sub_NoSpot_NoName, ↓sub_NoSpot_Taken, ↓sub_NoSpot_Unknown, ↓sub_NoSpot_NoDeed, ↓sub_NoSpot_NoLot, ↓sub_NoSpot_NoCount, ↓sub_NoSpot_NoWeights, ↓sub_NoSpot_NoText, ↓sub_NoSpot_NoRow, ↓sub_NoName_NoNumber, ↓sub_NoName_NoLine, ↓sub_NoName_NoBox, ↓sub_NoName_TooMany, ↓sub_NoName_NoSpot, ↓sub_NoName_Taken, ↓sub_NoName_Unknown, ↓sub_NoName_NoDeed, ↓sub_NoName_NoLot, ↓sub_NoName_NoCount, ↓sub_NoName_NoWeights, ↓sub_NoName_NoText, ↓sub_NoName_NoRow, ↓sub_Taken_NoNumber, ↓sub_Taken_NoLine, ↓sub_Taken_NoBox, ↓sub_Taken_TooMany, ↓sub_Taken_NoSpot, ↓sub_Taken_NoName, ↓sub_Taken_Unknown, ↓sub_Taken_NoDeed, ↓sub_Taken_NoLot, ↓sub_Taken_NoCount, ↓sub_Taken_NoWeights, ↓sub_Taken_NoText, ↓sub_Taken_NoRow, ↓sub_Unknown_NoNumber, ↓sub_Unknown_NoLine, ↓sub_Unknown_NoBox, ↓sub_Unknown_TooMany, ↓sub_Unknown_NoSpot, ↓sub_Unknown_NoName, ↓sub_Unknown_Taken, ↓sub_Unknown_NoDeed, ↓sub_Unknown_NoLot, ↓sub_Unknown_NoCount, ↓sub_Unknown_NoWeights, ↓sub_Unknown_NoText, ↓sub_Unknown_NoRow, ↓sub_NoDeed_NoNumber, ↓sub_NoDeed_NoLine, ↓sub_NoDeed_NoBox, ↓sub_NoDeed_TooMany, ↓sub_NoDeed_NoSpot, ↓sub_NoDeed_NoName, ↓sub_NoDeed_Taken, ↓sub_NoDeed_Unknown, ↓sub_NoDeed_NoLot, ↓sub_NoDeed_NoCount, ↓sub_NoDeed_NoWeights, ↓sub_NoDeed_NoText, ↓sub_NoDeed_NoRow, ↓sub_NoLot_NoNumber, ↓sub_NoLot_NoLine, ↓sub_NoLot_NoBox, ↓sub_NoLot_TooMany, ↓sub_NoLot_NoSpot, ↓sub_NoLot_NoName, ↓sub_NoLot_Taken, ↓sub_NoLot_Unknown, ↓sub_NoLot_NoDeed, ↓sub_NoLot_NoCount, ↓sub_NoLot_NoWeights, ↓sub_NoLot_NoText, ↓sub_NoLot_NoRow, ↓sub_NoCount_NoNumber, ↓sub_NoCount_NoLine, ↓sub_NoCount_NoBox, ↓sub_NoCount_TooMany, ↓sub_NoCount_NoSpot, ↓sub_NoCount_NoName, ↓sub_NoCount_Taken, ↓sub_NoCount_Unknown, ↓sub_NoCount_NoDeed, ↓sub_NoCount_NoLot, ↓sub_NoCount_NoWeights, ↓sub_NoCount_NoText, ↓sub_NoCount_NoRow, ↓sub_NoWeights_NoNumber, ↓sub_NoWeights_NoLine, ↓sub_NoWeights_NoBox, ↓sub_NoWeights_TooMany, ↓sub_NoWeights_NoSpot, ↓sub_NoWeights_NoName, ↓sub_NoWeights_Taken, ↓sub_NoWeights_Unknown, ↓sub_NoWeights_NoDeed, ↓sub_NoWeights_NoLot, ↓sub_NoWeights_NoCount, ↓sub_NoWeights_NoText, ↓sub_NoWeights_NoRow, ↓sub_NoText_NoNumber, ↓sub_NoText_NoLine, ↓sub_NoText_NoBox, ↓sub_NoText_TooMany, ↓sub_NoText_NoSpot, ↓sub_NoText_NoName, ↓sub_NoText_Taken, ↓sub_NoText_Unknown, ↓sub_NoText_NoDeed, ↓sub_NoText_NoLot, ↓sub_NoText_NoCount, ↓sub_NoText_NoWeights, ↓sub_NoText_NoRow, ↓sub_NoRow_NoNumber, ↓sub_NoRow_NoLine, ↓sub_NoRow_NoBox, ↓sub_NoRow_TooMany, ↓sub_NoRow_NoSpot, ↓sub_NoRow_NoName, ↓sub_NoRow_Taken, ↓sub_NoRow_Unknown, ↓sub_NoRow_NoDeed, ↓sub_NoRow_NoLot, ↓sub_NoRow_NoCount, ↓sub_NoRow_NoWeights, ↓sub_NoRow_NoText, ↓q_meth, ↓ex_isl, ↓q_lcnt, ↓q_raiseA, ↓q_inT, ↓q_notinT, ↓q_revT, ↓ex_tup2, ↓q_popE, ↓q_popAt, ↓q_lrng1, ↓q_lrng2, ↓q_tupO, ↓q_opn, ↓q_maxT3, ↓q_nmax, ↓q_zip, ↓q_rep, ↓q_lsG, ↓q_lenSet, ↓q_nop, ↓q_nisi, ↓q_in, ↓q_notin, ↓q_ins, ↓q_chg, ↓q_ext, ↓q_ptS, ↓q_ls, ↓q_nkey, ↓q_putK, ↓q_putT, ↓q_disp, ↓q_newT, ↓q_fc, ↓q_fa, ↓q_fl, ↓q_pa, ↓q_pl, ↓k_vv0, ↓k_vv1, ↓k_vv2, ↓k_vv3, ↓k_vv4, ↓k_vv5, ↓k_vv6, ↓k_vv7, ↓k_vv8, ↓k_vv9, ↓k_vv10, ↓k_vv11, ↓k_vv12, ↓k_vv13, ↓k_vv14, ↓k_vv15, ↓k_vv16, ↓k_vv17, ↓k_vv18, ↓k_vv19, ↓k_vv20, ↓k_vv21, ↓k_vv22, ↓k_vv23, ↓k_vv24, ↓k_vv25, ↓k_vo0, ↓k_vo1, ↓k_vo2, ↓k_vo3, ↓k_vo4, ↓k_vo5, ↓k_vo6, ↓k_vo7, ↓k_vo8, ↓k_vo9, ↓k_vo10, ↓k_vo11, ↓k_vo12, ↓k_vo13, ↓k_vo14, ↓k_vo15, ↓k_vo16, ↓k_vo17, ↓k_vo18, ↓k_vo19, ↓k_vo20, ↓k_vo21, ↓k_vo22, ↓k_vo23, ↓k_vo24, ↓k_vo25, ↓k_sk0, ↓k_sk1, ↓k_sk2, ↓k_sk3, ↓k_sk4, ↓k_sk5, ↓k_sk6, ↓k_sk7, ↓k_sk8, ↓k_sk9, ↓k_sk10, ↓k_sk11, ↓k_sk12, ↓k_sk13, ↓k_sk14, ↓k_sk15, ↓k_sk16, ↓k_sk17, ↓k_sk18, ↓k_sk19, ↓k_sk20, ↓k_sk21, ↓k_sk22, ↓k_sk23, ↓k_sk24, ↓k_sk25, ↓k_rv0, ↓k_rv1, ↓k_rv2, ↓k_rv3, ↓k_rv4, ↓k_rv5, ↓k_rv6, ↓k_rv7, ↓k_rv8, ↓k_rv9, ↓k_rv10, ↓k_rv11, ↓k_rv12, ↓k_rv13, ↓k_rv14, ↓k_rv15, ↓k_rv16, ↓k_rv17, ↓k_rv18, ↓k_rv19, ↓k_rv20, ↓k_rv21, ↓k_rv22, ↓k_rv23, ↓k_rv24, ↓k_rv25, ↓k_ro0, ↓k_ro1, ↓k_ro2, ↓k_ro3, ↓k_ro4, ↓k_ro5, ↓k_ro6, ↓k_ro7, ↓k_ro8, ↓k_ro9, ↓k_ro10, ↓k_ro11, ↓k_ro12, ↓k_ro13, ↓k_ro14, ↓k_ro15, ↓k_ro16, ↓k_ro17, ↓k_ro18, ↓k_ro19, ↓k_ro20, ↓k_ro21, ↓k_ro22, ↓k_ro23, ↓k_ro24, ↓k_ro25, ↓k_rl0, ↓k_rl1, ↓k_rl2, ↓k_rl3, ↓k_rl4, ↓k_rl5, ↓k_rl6, ↓k_rl7, ↓k_rl8, ↓k_rl9, ↓k_rl10, ↓k_rl11, ↓k_rl12, ↓k_rl13, ↓k_rl14, ↓k_rl15, ↓k_rl16, ↓k_rl17, ↓k_rl18, ↓k_rl19, ↓k_rl20, ↓k_rl21, ↓k_rl22, ↓k_rl23, ↓k_rl24, ↓k_rl25, ↓k_oo0, ↓k_oo1, ↓k_oo2, ↓k_oo3, ↓k_oo4, ↓k_oo5, ↓k_oo6, ↓k_oo7, ↓k_oo8, ↓k_oo9, ↓k_oo10, ↓k_oo11, ↓k_oo12, ↓k_oo13, ↓k_oo14, ↓k_oo15, ↓k_oo16, ↓k_oo17, ↓k_oo18, ↓k_oo19, ↓k_oo20, ↓k_oo21, ↓k_oo22, ↓k_oo23, ↓k_oo24, ↓k_oo25, ↓k_ol0, ↓k_ol1, ↓k_ol2, ↓k_ol3, ↓k_ol4, ↓k_ol5, ↓k_ol6, ↓k_ol7, ↓k_ol8, ↓k_ol9, ↓k_ol10, ↓k_ol11, ↓k_ol12, ↓k_ol13, ↓k_ol14, ↓k_ol15, ↓k_ol16, ↓k_ol17, ↓k_ol18, ↓k_ol19, ↓k_ol20, ↓k_ol21, ↓k_ol22, ↓k_ol23, ↓k_ol24, ↓k_ol25, ↓k_lo0, ↓k_lo1, ↓k_lo2, ↓k_lo3, ↓k_lo4, ↓k_lo5, ↓k_lo6, ↓k_lo7, ↓k_lo8, ↓k_lo9, ↓k_lo10, ↓k_lo11, ↓k_lo12, ↓k_lo13, ↓k_lo14, ↓k_lo15, ↓k_lo16, ↓k_lo17, ↓k_lo18, ↓k_lo19, ↓k_lo20, ↓k_lo21, ↓k_lo22, ↓k_lo23, ↓k_lo24, ↓k_lo25, ↓k_ll0, ↓k_ll1, ↓k_ll2, ↓k_ll3, ↓k_ll4, ↓k_ll5, ↓k_ll6, ↓k_ll7, ↓k_ll8, ↓k_ll9, ↓k_ll10, ↓k_ll11, ↓k_ll12, ↓k_ll13, ↓k_ll14, ↓k_ll15, ↓k_ll16, ↓k_ll17, ↓k_ll18, ↓k_ll19, ↓k_ll20, ↓k_ll21, ↓k_ll22, ↓k_ll23, ↓k_ll24, ↓k_ll25, ↓k_ho0, ↓k_ho1, ↓k_ho2, ↓k_ho3, ↓k_ho4, ↓k_ho5, ↓k_ho6, ↓k_ho7, ↓k_ho8, ↓k_ho9, ↓k_ho10, ↓k_ho11, ↓k_ho12, ↓k_ho13, ↓k_ho14, ↓k_ho15, ↓k_ho16, ↓k_ho17, ↓k_ho18, ↓k_ho19, ↓k_ho20, ↓k_ho21, ↓k_ho22, ↓k_ho23, ↓k_ho24, ↓k_ho25, ↓k_hl0, ↓k_hl1, ↓k_hl2, ↓k_hl3, ↓k_hl4, ↓k_hl5, ↓k_hl6, ↓k_hl7, ↓k_hl8, ↓k_hl9, ↓k_hl10, ↓k_hl11, ↓k_hl12, ↓k_hl13, ↓k_hl14, ↓k_hl15, ↓k_hl16, ↓k_hl17, ↓k_hl18, ↓k_hl19, ↓k_hl20, ↓k_hl21, ↓k_hl22, ↓k_hl23, ↓k_hl24, ↓k_hl25, ↓k_po0, ↓k_po1, ↓k_po2, ↓k_po3, ↓k_po4, ↓k_po5, ↓k_po6, ↓k_po7, ↓k_po8, ↓k_po9, ↓k_po10, ↓k_po11, ↓k_po12, ↓k_po13, ↓k_po14, ↓k_po15, ↓k_po16, ↓k_po17, ↓k_po18, ↓k_po19, ↓k_po20, ↓k_po21, ↓k_po22, ↓k_po23, ↓k_po24, ↓k_po25, ↓k_pl0, ↓k_pl1, ↓k_pl2, ↓k_pl3, ↓k_pl4, ↓k_pl5, ↓k_pl6, ↓k_pl7, ↓k_pl8, ↓k_pl9, ↓k_pl10, ↓k_pl11, ↓k_pl12, ↓k_pl13, ↓k_pl14, ↓k_pl15, ↓k_pl16, ↓k_pl17, ↓k_pl18, ↓k_pl19, ↓k_pl20, ↓k_pl21, ↓k_pl22, ↓k_pl23, ↓k_pl24, ↓k_pl25, ↓k_kk0, ↓k_kk1, ↓k_kk2, ↓k_kk3, ↓k_kk4, ↓k_kk5, ↓k_kk6, ↓k_kk7, ↓k_kk8, ↓k_kk9, ↓k_kk10, ↓k_kk11, ↓k_kk12, ↓k_kk13, ↓k_kk14, ↓k_kk15, ↓k_kk16, ↓k_kk17, ↓k_kk18, ↓k_kk19, ↓k_kk20, ↓k_kk21, ↓k_kk22, ↓k_kk23, ↓k_kk24, ↓k_kk25, ↓k_nv0, ↓k_nv1, ↓k_nv2, ↓k_nv3, ↓k_nv4, ↓k_nv5, ↓k_nv6, ↓k_nv7, ↓k_nv8, ↓k_nv9, ↓k_nv10, ↓k_nv11, ↓k_nv12, ↓k_nv13, ↓k_nv14, ↓k_nv15, ↓k_nv16, ↓k_nv17, ↓k_nv18, ↓k_nv19, ↓k_nv20, ↓k_nv21, ↓k_nv22, ↓k_nv23, ↓k_nv24, ↓k_nv25, ↓k_no0, ↓k_no1, ↓k_no2, ↓k_no3, ↓k_no4, ↓k_no5, ↓k_no6, ↓k_no7, ↓k_no8, ↓k_no9, ↓k_no10, ↓k_no11, ↓k_no12, ↓k_no13, ↓k_no14, ↓k_no15, ↓k_no16, ↓k_no17, ↓k_no18, ↓k_no19, ↓k_no20, ↓k_no21, ↓k_no22, ↓k_no23, ↓k_no24, ↓k_no25, ↓k_nl0, ↓k_nl1, ↓k_nl2, ↓k_nl3, ↓k_nl4, ↓k_nl5, ↓k_nl6, ↓k_nl7, ↓k_nl8, ↓k_nl9, ↓k_nl10, ↓k_nl11, ↓k_nl12, ↓k_nl13, ↓k_nl14, ↓k_nl15, ↓k_nl16, ↓k_nl17, ↓k_nl18, ↓k_nl19, ↓k_nl20, ↓k_nl21, ↓k_nl22, ↓k_nl23, ↓k_nl24, ↓k_nl25, ↓k_ao0, ↓k_ao1, ↓k_ao2, ↓k_ao3, ↓k_ao4, ↓k_ao5, ↓k_ao6, ↓k_ao7, ↓k_ao8, ↓k_ao9, ↓k_ao10, ↓k_ao11, ↓k_ao12, ↓k_ao13, ↓k_ao14, ↓k_ao15, ↓k_ao16, ↓k_ao17, ↓k_ao18, ↓k_ao19, ↓k_ao20, ↓k_ao21, ↓k_ao22, ↓k_ao23, ↓k_ao24, ↓k_ao25, ↓k_al0, ↓k_al1, ↓k_al2, ↓k_al3, ↓k_al4, ↓k_al5, ↓k_al6, ↓k_al7, ↓k_al8, ↓k_al9, ↓k_al10, ↓k_al11, ↓k_al12, ↓k_al13, ↓k_al14, ↓k_al15, ↓k_al16, ↓k_al17, ↓k_al18, ↓k_al19, ↓k_al20, ↓k_al21, ↓k_al22, ↓k_al23, ↓k_al24, ↓k_al25, ↓k_ro_0, ↓k_ro_1, ↓k_ro_2, ↓k_ro_3, ↓k_ro_4, ↓k_ro_5, ↓k_ro_6, ↓k_ro_7, ↓k_ro_8, ↓k_ro_9, ↓k_ro_10, ↓k_ro_11, ↓k_ro_12, ↓k_ro_13, ↓k_ro_14, ↓k_ro_15, ↓k_ro_16, ↓k_ro_17, ↓k_ro_18, ↓k_ro_19, ↓k_ro_20, ↓k_ro_21, ↓k_ro_22, ↓k_ro_23, ↓k_ro_24, ↓k_ro_25, ↓k_au0, ↓k_au1, ↓k_au2, ↓k_au3, ↓k_au4, ↓k_au5, ↓k_au6, ↓k_au7, ↓k_au8, ↓k_au9, ↓k_au10, ↓k_au11, ↓k_au12, ↓k_au13, ↓k_au14, ↓k_au15, ↓k_au16, ↓k_au17, ↓k_au18, ↓k_au19, ↓k_au20, ↓k_au21, ↓k_au22, ↓k_au23, ↓k_au24, ↓k_au25, ↓rg0, ↓rg1, ↓rg2, ↓rg3, ↓rg4, ↓rg5, ↓rg6, ↓rg7, ↓rg8, ↓xs1_0, ↓xs2_0, ↓xs2_1, ↓xs3_0, ↓xs3_1, ↓xs3_2, ↓xs4_0, ↓xs4_1, ↓xs4_2, ↓xs4_3, ↓xs5_0, ↓xs5_1, ↓xs5_2, ↓xs5_3, ↓xs5_4, ↓ak1_m1, ↓ak1_0, ↓ak2_m2, ↓ak2_m1, ↓ak2_0, ↓ak2_1, ↓ak3_m3, ↓ak3_m2, ↓ak3_m1, ↓ak3_0, ↓ak3_1, ↓ak3_2, ↓ak4_m4, ↓ak4_m3, ↓ak4_m2, ↓ak4_m1, ↓ak4_0, ↓ak4_1, ↓ak4_2, ↓ak4_3, ↓ak5_m5, ↓ak5_m4, ↓ak5_m3, ↓ak5_m2, ↓ak5_m1, ↓ak5_0, ↓ak5_1, ↓ak5_2, ↓ak5_3, ↓ak5_4, ↓ak6_m6, ↓ak6_m5, ↓ak6_m4, ↓ak6_m3, ↓ak6_m2, ↓ak6_m1, ↓ak6_0, ↓ak6_1, ↓ak6_2, ↓ak6_3, ↓ak6_4, ↓ak6_5, ↓bk0, ↓bk1, ↓bk2, ↓bk3, ↓bk4, ↓bk5, ↓bk6, ↓bk7, ↓bk8, ↓at2_0, ↓at2_1, ↓at3_0, ↓at3_1, ↓at3_2, ↓at4_0, ↓at4_1, ↓at4_2, ↓at4_3, q_dispF, Int.cast_ofNat_Int, List.all_cons, List.all_nil, List.any_cons, List.any_nil, id_eq, Bool.or_false, Bool.false_or, Bool.or_true, Bool.true_or, sif_t, sif_f, eqd_str, eqd_lst, eqd_tup, eqds_nil, eqds_cons, eqds_cn, eqds_nc, eqd_nn, eqd_nt, eqd_tn, beq_self_eq_true, Bool.true_and, Bool.and_true, Bool.false_and, Bool.and_false, eq_self, decide_true, decide_false, Int.reduceLE, Int.reduceLT, Int.reduceEq, Int.reduceNe, Nat.reduceAdd, Nat.reducePow, Nat.reduceLeDiff, bls_nil, bls_cons, ix3_0, ix3_1, ix3_2, ix2_0, ix2_1, eqd_int, shp_int, DL.isNon, CPow, List.length_cons, List.length_nil, List.length_map, Option.map_some, Option.some.injEq, exists_eq_left', exists_eq_left, true_and, and_true, if_true, if_false, Bool.false_eq_true, decide_eq_true_eq, Bool.not_eq_true', decide_eq_false_iff_not, List.cons_append, List.nil_append, List.set_cons_zero, List.set_cons_succ, Bool.not_true, Bool.not_false, ite_true, ite_false, Int.reduceToNat, Int.reducePow, Int.reduceNeg, Int.reduceMul, Int.reduceAdd, Int.reduceSub])


def top (i : Nat) : Stmt := PySem.Challenge.pw_nearlands_k04_classes_of_refusals.main.body.getD i (.Pass ⟨0, 0, 0, 0⟩)
def CL : List Str := ["LandError", "NoNumber", "NoLine", "NoBox", "TooMany", "NoSpot", "NoName", "Taken", "Unknown", "NoDeed", "NoLot", "NoCount", "NoWeights", "NoText", "NoRow"]
structure Bi (K : PySem.W.Frag) (mg : Str → Option Value) : Prop where
  ValueError : mg "ValueError" = none
  isinstance : mg "isinstance" = none
  range : mg "range" = none
  g_LandError : mg "LandError" = some (.ref (He.ga K "LandError"))
  g_NoBox : mg "NoBox" = some (.ref (He.ga K "NoBox"))
  g_NoCount : mg "NoCount" = some (.ref (He.ga K "NoCount"))
  g_NoDeed : mg "NoDeed" = some (.ref (He.ga K "NoDeed"))
  g_NoLine : mg "NoLine" = some (.ref (He.ga K "NoLine"))
  g_NoLot : mg "NoLot" = some (.ref (He.ga K "NoLot"))
  g_NoName : mg "NoName" = some (.ref (He.ga K "NoName"))
  g_NoNumber : mg "NoNumber" = some (.ref (He.ga K "NoNumber"))
  g_NoRow : mg "NoRow" = some (.ref (He.ga K "NoRow"))
  g_NoSpot : mg "NoSpot" = some (.ref (He.ga K "NoSpot"))
  g_NoText : mg "NoText" = some (.ref (He.ga K "NoText"))
  g_NoWeights : mg "NoWeights" = some (.ref (He.ga K "NoWeights"))
  g_Taken : mg "Taken" = some (.ref (He.ga K "Taken"))
  g_TooMany : mg "TooMany" = some (.ref (He.ga K "TooMany"))
  g_Unknown : mg "Unknown" = some (.ref (He.ga K "Unknown"))
  xa : XA K CL
  o_NoSpot : Nos K "NoSpot" "LandError"
  x_NoBox : (He.Fa.exc "NoBox").ok K = true
  x_NoCount : (He.Fa.exc "NoCount").ok K = true
  x_NoDeed : (He.Fa.exc "NoDeed").ok K = true
  x_NoLine : (He.Fa.exc "NoLine").ok K = true
  x_NoLot : (He.Fa.exc "NoLot").ok K = true
  x_NoName : (He.Fa.exc "NoName").ok K = true
  x_NoNumber : (He.Fa.exc "NoNumber").ok K = true
  x_NoRow : (He.Fa.exc "NoRow").ok K = true
  x_NoText : (He.Fa.exc "NoText").ok K = true
  x_NoWeights : (He.Fa.exc "NoWeights").ok K = true
  x_Taken : (He.Fa.exc "Taken").ok K = true
  x_TooMany : (He.Fa.exc "TooMany").ok K = true
  x_Unknown : (He.Fa.exc "Unknown").ok K = true
section
variable {P : Program} {w : World} {K : PySem.W.Frag} {mg : Str → Option Value} {base : Heap}
def topI : Stmt := (clsBody (top 6)).getD 0 (.Pass ⟨0, 0, 0, 0⟩)
theorem sc_init : FnScope ["self", "at"] ["self", "at"] (defScope topI) := ⟨rfl, rfl, rfl, by decide +kernel, rfl, by decide +kernel, by decide +kernel⟩
theorem d_init (Z : Bi K mg) (f : Addr) (cdv : Value) (A : Around) (outer : List Env) (s : Shared) (H : Hp) (E : XK) : PSs (cxOf CX0 P w K mg base ["self", "at"] "NoSpot.__init__" (defScope topI) f cdv A outer s H E) (defBody topI) (tSeq (tDrop (tVeI K (tCons (tVar 0) (tCons (tC (.str "no such spot")) tNil)))) (tOst K "at" (tVar 0) (tVar 1))) :=
  pss_cons (ps_expr (pe_cinit (C0 := He.ga K "LandError") rfl Z.g_LandError Z.o_NoSpot.sp Z.o_NoSpot.rd Z.o_NoSpot.vv (pa_cons (pv 0) (pa_cons pe_str pa_nil)))) (pss_one (ps_ost (pv 0) (pv 1)))
theorem c_init (Z : Bi K mg) (F : ∃ fd, FunD K "__init__" "NoSpot.__init__" (defArgs topI) (defBody topI) (defScope topI) [] [] (He.fAd K ("NoSpot", some "__init__")) fd) : InitOk P w K mg base "NoSpot" := by
  obtain ⟨fd, F⟩ := F
  exact ⟨fd, F.bindsN (ps := ["self", "at"]) fun _ _ _ _ _ _ us hl => match us, hl with | [_, _], _ => rfl, fnI_ok (k := 0) F sc_init Z.o_NoSpot.oex Z.o_NoSpot.at_ (fun cdv A outer s H E => d_init Z _ cdv A outer s H E)⟩
/-! ### _law_truths -/
abbrev N__law_truths : List Str := ["_law_e", "_law_found"]
theorem sc__law_truths : FnScope N__law_truths ["_law_e"] (defScope (top 18)) := ⟨rfl, rfl, rfl, by decide +kernel, rfl, by decide +kernel, by decide +kernel⟩
def kC : List Str := ["NoNumber", "NoLine", "NoBox", "TooMany", "NoSpot", "NoName", "Taken", "Unknown", "NoDeed", "NoLot", "NoCount", "NoWeights", "NoText", "NoRow"]
def xdW (w : Nat) (d : D) : XD := ⟨kC.getD w "NoRow", if w = 4 then some d else none⟩
def tB (w : Nat) : List D := (List.range 14).map fun i => D.bl (i == w)
def s__law_truths : FD := fun ds Q E => ∃ (w : Nat) (d : D), ds = [excOf (xdW w d)] ∧ w < 14 ∧ Q (.lst (tB w))
theorem m__law_truths : MonoF s__law_truths := fun _ _ _ _ _ k _ ⟨w, d, e, h1, h⟩ => ⟨w, d, e, h1, k _ h⟩
theorem l__law_truths : ∀ ds Q E, s__law_truths ds Q E → ds.length = 1 := fun _ _ _ ⟨_, _, e, _⟩ => by rw [e]; rfl
def b__law_truths : DS := dSeq (dAsg (dLst (dCons (dUn (gIsc CL ["NoNumber"]) (dVal 0)) (dCons (dUn (gIsc CL ["NoLine"]) (dVal 0)) (dCons (dUn (gIsc CL ["NoBox"]) (dVal 0)) (dCons (dUn (gIsc CL ["TooMany"]) (dVal 0)) (dNil)))))) 1)
  (dSeq (dAsg (dCat (dVal 1) (dLst (dCons (dUn (gIsc CL ["NoSpot"]) (dVal 0)) (dCons (dUn (gIsc CL ["NoName"]) (dVal 0)) (dCons (dUn (gIsc CL ["Taken"]) (dVal 0)) (dCons (dUn (gIsc CL ["Unknown"]) (dVal 0)) (dNil))))))) 1)
  (dSeq (dAsg (dCat (dVal 1) (dLst (dCons (dUn (gIsc CL ["NoDeed"]) (dVal 0)) (dCons (dUn (gIsc CL ["NoLot"]) (dVal 0)) (dCons (dUn (gIsc CL ["NoCount"]) (dVal 0)) (dCons (dUn (gIsc CL ["NoWeights"]) (dVal 0)) (dNil))))))) 1)
  (dRet (dCat (dVal 1) (dLst (dCons (dUn (gIsc CL ["NoText"]) (dVal 0)) (dCons (dUn (gIsc CL ["NoRow"]) (dVal 0)) (dNil))))))))
theorem d__law_truths (Z : Bi K mg) (f : Addr) (cdv : Value) (A : Around) (outer : List Env) (s : Shared) (H : Hp) (E : XK) (B : Bd) (hr : Room 0 (A.deeper (envOfC "_law_truths" (defScope (top 18)) s.heap.objs.size f cdv))) :
    PSsD (cxOf CX0 P w K mg base N__law_truths "_law_truths" (defScope (top 18)) f cdv A outer s H E).nox B wx0 false (defBody (top 18)) b__law_truths :=
  pssd_cons (psd_set (i := 1) sc__law_truths.nd rfl (Or.inl rfl) (pd_lst (pad_cons (pd_isc1 (y := "NoNumber") Z.xa (by decide) rfl Z.isinstance (pd_val (pv 0)) (pe_cls (y := "NoNumber") (by decide) rfl Z.g_NoNumber)) (pad_cons (pd_isc1 (y := "NoLine") Z.xa (by decide) rfl Z.isinstance (pd_val (pv 0)) (pe_cls (y := "NoLine") (by decide) rfl Z.g_NoLine)) (pad_cons (pd_isc1 (y := "NoBox") Z.xa (by decide) rfl Z.isinstance (pd_val (pv 0)) (pe_cls (y := "NoBox") (by decide) rfl Z.g_NoBox)) (pad_cons (pd_isc1 (y := "TooMany") Z.xa (by decide) rfl Z.isinstance (pd_val (pv 0)) (pe_cls (y := "TooMany") (by decide) rfl Z.g_TooMany)) (pad_nil)))))))
  (pssd_cons (psd_set (i := 1) sc__law_truths.nd rfl (Or.inl rfl) (pd_fresh (pf_cat (pd_val (pv 1)) (pd_lst (pad_cons (pd_isc1 (y := "NoSpot") Z.xa (by decide) rfl Z.isinstance (pd_val (pv 0)) (pe_cls (y := "NoSpot") (by decide) rfl Z.g_NoSpot)) (pad_cons (pd_isc1 (y := "NoName") Z.xa (by decide) rfl Z.isinstance (pd_val (pv 0)) (pe_cls (y := "NoName") (by decide) rfl Z.g_NoName)) (pad_cons (pd_isc1 (y := "Taken") Z.xa (by decide) rfl Z.isinstance (pd_val (pv 0)) (pe_cls (y := "Taken") (by decide) rfl Z.g_Taken)) (pad_cons (pd_isc1 (y := "Unknown") Z.xa (by decide) rfl Z.isinstance (pd_val (pv 0)) (pe_cls (y := "Unknown") (by decide) rfl Z.g_Unknown)) (pad_nil)))))))))
  (pssd_cons (psd_set (i := 1) sc__law_truths.nd rfl (Or.inl rfl) (pd_fresh (pf_cat (pd_val (pv 1)) (pd_lst (pad_cons (pd_isc1 (y := "NoDeed") Z.xa (by decide) rfl Z.isinstance (pd_val (pv 0)) (pe_cls (y := "NoDeed") (by decide) rfl Z.g_NoDeed)) (pad_cons (pd_isc1 (y := "NoLot") Z.xa (by decide) rfl Z.isinstance (pd_val (pv 0)) (pe_cls (y := "NoLot") (by decide) rfl Z.g_NoLot)) (pad_cons (pd_isc1 (y := "NoCount") Z.xa (by decide) rfl Z.isinstance (pd_val (pv 0)) (pe_cls (y := "NoCount") (by decide) rfl Z.g_NoCount)) (pad_cons (pd_isc1 (y := "NoWeights") Z.xa (by decide) rfl Z.isinstance (pd_val (pv 0)) (pe_cls (y := "NoWeights") (by decide) rfl Z.g_NoWeights)) (pad_nil)))))))))
  (pssd_one (psd_ret (pd_fresh (pf_cat (pd_val (pv 1)) (pd_lst (pad_cons (pd_isc1 (y := "NoText") Z.xa (by decide) rfl Z.isinstance (pd_val (pv 0)) (pe_cls (y := "NoText") (by decide) rfl Z.g_NoText)) (pad_cons (pd_isc1 (y := "NoRow") Z.xa (by decide) rfl Z.isinstance (pd_val (pv 0)) (pe_cls (y := "NoRow") (by decide) rfl Z.g_NoRow)) (pad_nil))))))))))
set_option maxHeartbeats 4000000 in
theorem p__law_truths : ∀ ds Q E, s__law_truths ds Q E → b__law_truths (fnE false Q fun _ => False) (startD N__law_truths ds) := by
  rintro _ Q E ⟨w, d, rfl, hw, h⟩
  have sl : (1000 : Nat) ≤ sizeLine := by rw [sizeLine_eq]; decide
  unfold b__law_truths
  have : w = 0 ∨ w = 1 ∨ w = 2 ∨ w = 3 ∨ w = 4 ∨ w = 5 ∨ w = 6 ∨ w = 7 ∨ w = 8 ∨ w = 9 ∨ w = 10 ∨ w = 11 ∨ w = 12 ∨ w = 13 := by omega
  rcases this with rfl | rfl | rfl | rfl | rfl | rfl | rfl | rfl | rfl | rfl | rfl | rfl | rfl | rfl
  · show (dSeq _ _) _ [.v (.exc "NoNumber" []), .no]
    walk_at "go"
    exact h
  · show (dSeq _ _) _ [.v (.exc "NoLine" []), .no]
    walk_at "go"
    exact h
  · show (dSeq _ _) _ [.v (.exc "NoBox" []), .no]
    walk_at "go"
    exact h
  · show (dSeq _ _) _ [.v (.exc "TooMany" []), .no]
    walk_at "go"
    exact h
  · show (dSeq _ _) _ [.v (.exc "NoSpot" [d]), .no]
    walk_at "go"
    exact h
  · show (dSeq _ _) _ [.v (.exc "NoName" []), .no]
    walk_at "go"
    exact h
  · show (dSeq _ _) _ [.v (.exc "Taken" []), .no]
    walk_at "go"
    exact h
  · show (dSeq _ _) _ [.v (.exc "Unknown" []), .no]
    walk_at "go"
    exact h
  · show (dSeq _ _) _ [.v (.exc "NoDeed" []), .no]
    walk_at "go"
    exact h
  · show (dSeq _ _) _ [.v (.exc "NoLot" []), .no]
    walk_at "go"
    exact h
  · show (dSeq _ _) _ [.v (.exc "NoCount" []), .no]
    walk_at "go"
    exact h
  · show (dSeq _ _) _ [.v (.exc "NoWeights" []), .no]
    walk_at "go"
    exact h
  · show (dSeq _ _) _ [.v (.exc "NoText" []), .no]
    walk_at "go"
    exact h
  · show (dSeq _ _) _ [.v (.exc "NoRow" []), .no]
    walk_at "go"
    exact h
theorem c__law_truths (Z : Bi K mg) (F : ∃ fd, FunD K "_law_truths" "_law_truths" (defArgs (top 18)) (defBody (top 18)) (defScope (top 18)) [] [] (He.fAd K ("_law_truths", none)) fd) (gl : mg "_law_truths" = some (.ref (He.fAd K ("_law_truths", none)))) : Callee P w K mg base CX0 1 "_law_truths" ["_law_e"] (spD K false s__law_truths) := by
  obtain ⟨fd, F⟩ := F
  exact cal_mk F gl (F.bindsN (ps := ["_law_e"]) fun _ _ _ _ _ _ us hl => match us, hl with | [_], _ => rfl) (fn_ok0 (k := 0) F sc__law_truths l__law_truths (fun cdv A outer s H E B hr => d__law_truths Z  _ cdv A outer s H E B hr) p__law_truths)
/-! ### _law_raised -/
abbrev N__law_raised : List Str := ["_law_way", "_law_at"]
theorem sc__law_raised : FnScope N__law_raised ["_law_way", "_law_at"] (defScope (top 17)) := ⟨rfl, rfl, rfl, by decide +kernel, rfl, by decide +kernel, by decide +kernel⟩
def s__law_raised : FD := fun ds Q E => ∃ (w : Nat) (d : D), ds = [.int (w : Int), d] ∧ w < 14 ∧ E (xdW w d)
theorem m__law_raised : MonoF s__law_raised := fun _ _ _ _ _ k ke ⟨w, d, e, h1, h⟩ => ⟨w, d, e, h1, ke _ h⟩
theorem l__law_raised : ∀ ds Q E, s__law_raised ds Q E → ds.length = 2 := fun _ _ _ ⟨_, _, e, _⟩ => by rw [e]; rfl
def b__law_raised : DS := dSeq (dIfS (dTest (dEq (dVal 0) (dC (.int 0)))) (dRaise "NoNumber") (dNext))
  (dSeq (dIfS (dTest (dEq (dVal 0) (dC (.int 1)))) (dRaise "NoLine") (dNext))
  (dSeq (dIfS (dTest (dEq (dVal 0) (dC (.int 2)))) (dRaise "NoBox") (dNext))
  (dSeq (dIfS (dTest (dEq (dVal 0) (dC (.int 3)))) (dRaise "TooMany") (dNext))
  (dSeq (dIfS (dTest (dEq (dVal 0) (dC (.int 4)))) (dRaiseA "NoSpot" (dVal 1)) (dNext))
  (dSeq (dIfS (dTest (dEq (dVal 0) (dC (.int 5)))) (dRaise "NoName") (dNext))
  (dSeq (dIfS (dTest (dEq (dVal 0) (dC (.int 6)))) (dRaise "Taken") (dNext))
  (dSeq (dIfS (dTest (dEq (dVal 0) (dC (.int 7)))) (dRaise "Unknown") (dNext))
  (dSeq (dIfS (dTest (dEq (dVal 0) (dC (.int 8)))) (dRaise "NoDeed") (dNext))
  (dSeq (dIfS (dTest (dEq (dVal 0) (dC (.int 9)))) (dRaise "NoLot") (dNext))
  (dSeq (dIfS (dTest (dEq (dVal 0) (dC (.int 10)))) (dRaise "NoCount") (dNext))
  (dSeq (dIfS (dTest (dEq (dVal 0) (dC (.int 11)))) (dRaise "NoWeights") (dNext))
  (dSeq (dIfS (dTest (dEq (dVal 0) (dC (.int 12)))) (dRaise "NoText") (dNext))
  (dRaise "NoRow")))))))))))))
theorem d__law_raised (Z : Bi K mg) (CI : InitOk P w K mg base "NoSpot") (f : Addr) (cdv : Value) (A : Around) (outer : List Env) (s : Shared) (H : Hp) (E : XK) (B : Bd) (hr : Room 2 (A.deeper (envOfC "_law_raised" (defScope (top 17)) s.heap.objs.size f cdv))) :
    PSsD (cxOf (L2.CX P w) P w K mg base N__law_raised "_law_raised" (defScope (top 17)) f cdv A outer s H E) B (fun cls d _ H => E cls d H) false (defBody (top 17)) b__law_raised :=
  pssd_cons (psd_if (pt_eq hr (pd_val (pv 0)) (pd_int)) (pssd_one (psd_raise rfl (takes_of rfl rfl rfl rfl) (He.exc_ok Z.x_NoNumber) Z.g_NoNumber rfl)) (pssd_nil))
  (pssd_cons (psd_if (pt_eq hr (pd_val (pv 0)) (pd_int)) (pssd_one (psd_raise0 rfl (takes_of rfl rfl rfl rfl) (He.exc_ok Z.x_NoLine) Z.g_NoLine rfl)) (pssd_nil))
  (pssd_cons (psd_if (pt_eq hr (pd_val (pv 0)) (pd_int)) (pssd_one (psd_raise rfl (takes_of rfl rfl rfl rfl) (He.exc_ok Z.x_NoBox) Z.g_NoBox rfl)) (pssd_nil))
  (pssd_cons (psd_if (pt_eq hr (pd_val (pv 0)) (pd_int)) (pssd_one (psd_raise0 rfl (takes_of rfl rfl rfl rfl) (He.exc_ok Z.x_TooMany) Z.g_TooMany rfl)) (pssd_nil))
  (pssd_cons (psd_if (pt_eq hr (pd_val (pv 0)) (pd_int)) (pssd_one (psd_raiseA rfl (takes_of rfl rfl rfl rfl) Z.o_NoSpot CI hr (by decide) Z.g_NoSpot rfl (pd_val (pv 1)))) (pssd_nil))
  (pssd_cons (psd_if (pt_eq hr (pd_val (pv 0)) (pd_int)) (pssd_one (psd_raise rfl (takes_of rfl rfl rfl rfl) (He.exc_ok Z.x_NoName) Z.g_NoName rfl)) (pssd_nil))
  (pssd_cons (psd_if (pt_eq hr (pd_val (pv 0)) (pd_int)) (pssd_one (psd_raise0 rfl (takes_of rfl rfl rfl rfl) (He.exc_ok Z.x_Taken) Z.g_Taken rfl)) (pssd_nil))
  (pssd_cons (psd_if (pt_eq hr (pd_val (pv 0)) (pd_int)) (pssd_one (psd_raise rfl (takes_of rfl rfl rfl rfl) (He.exc_ok Z.x_Unknown) Z.g_Unknown rfl)) (pssd_nil))
  (pssd_cons (psd_if (pt_eq hr (pd_val (pv 0)) (pd_int)) (pssd_one (psd_raise0 rfl (takes_of rfl rfl rfl rfl) (He.exc_ok Z.x_NoDeed) Z.g_NoDeed rfl)) (pssd_nil))
  (pssd_cons (psd_if (pt_eq hr (pd_val (pv 0)) (pd_int)) (pssd_one (psd_raise rfl (takes_of rfl rfl rfl rfl) (He.exc_ok Z.x_NoLot) Z.g_NoLot rfl)) (pssd_nil))
  (pssd_cons (psd_if (pt_eq hr (pd_val (pv 0)) (pd_int)) (pssd_one (psd_raise0 rfl (takes_of rfl rfl rfl rfl) (He.exc_ok Z.x_NoCount) Z.g_NoCount rfl)) (pssd_nil))
  (pssd_cons (psd_if (pt_eq hr (pd_val (pv 0)) (pd_int)) (pssd_one (psd_raise rfl (takes_of rfl rfl rfl rfl) (He.exc_ok Z.x_NoWeights) Z.g_NoWeights rfl)) (pssd_nil))
  (pssd_cons (psd_if (pt_eq hr (pd_val (pv 0)) (pd_int)) (pssd_one (psd_raise0 rfl (takes_of rfl rfl rfl rfl) (He.exc_ok Z.x_NoText) Z.g_NoText rfl)) (pssd_nil))
  (pssd_one (psd_raise rfl (takes_of rfl rfl rfl rfl) (He.exc_ok Z.x_NoRow) Z.g_NoRow rfl))))))))))))))
theorem p__law_raised : ∀ ds Q E, s__law_raised ds Q E → b__law_raised (fnE false Q E) (startD N__law_raised ds) := by
  rintro _ Q E ⟨w, d, rfl, hw, h⟩
  show b__law_raised _ [.v (.int (w : Int)), .v d]
  unfold b__law_raised
  have : w = 0 ∨ w = 1 ∨ w = 2 ∨ w = 3 ∨ w = 4 ∨ w = 5 ∨ w = 6 ∨ w = 7 ∨ w = 8 ∨ w = 9 ∨ w = 10 ∨ w = 11 ∨ w = 12 ∨ w = 13 := by omega
  rcases this with rfl | rfl | rfl | rfl | rfl | rfl | rfl | rfl | rfl | rfl | rfl | rfl | rfl | rfl
  all_goals
    walk_at "go"
    exact h
theorem c__law_raised (Z : Bi K mg) (CI : InitOk P w K mg base "NoSpot") (F : ∃ fd, FunD K "_law_raised" "_law_raised" (defArgs (top 17)) (defBody (top 17)) (defScope (top 17)) [] [] (He.fAd K ("_law_raised", none)) fd) (gl : mg "_law_raised" = some (.ref (He.fAd K ("_law_raised", none)))) : Callee P w K mg base (L2.CX P w) 3 "_law_raised" ["_law_way", "_law_at"] (spD K false s__law_raised) := by
  obtain ⟨fd, F⟩ := F
  exact cal_mk F gl (F.bindsN (ps := ["_law_way", "_law_at"]) fun _ _ _ _ _ _ us hl => match us, hl with | [_, _], _ => rfl) (fn_okX (k := 2) F sc__law_raised l__law_raised (fun cdv A outer s H E B hr => d__law_raised Z CI  _ cdv A outer s H E B hr) p__law_raised)
/-! ### _law_right -/
abbrev N__law_right : List Str := ["_law_way", "_law_at", "_law_caught", "_law_e", "_law_truths_here"]
theorem sc__law_right : FnScope N__law_right ["_law_way", "_law_at"] (defScope (top 19)) := ⟨rfl, rfl, rfl, by decide +kernel, rfl, by decide +kernel, by decide +kernel⟩
def s__law_right : FD := fun ds Q E => ∃ (w : Nat) (d : D), ds = [.int (w : Int), d] ∧ w < 14 ∧ shp d = true ∧ Q (.bl true)
theorem m__law_right : MonoF s__law_right := fun _ _ _ _ _ k ke ⟨w, d, e, h1, h2, h⟩ => ⟨w, d, e, h1, h2, k _ h⟩
theorem l__law_right : ∀ ds Q E, s__law_right ds Q E → ds.length = 2 := fun _ _ _ ⟨_, _, e, _⟩ => by rw [e]; rfl
theorem tB_cnt {w : Nat} (h : w < 14) : (tB w).countP (fun z => eqd z (.bl true)) = 1 := by
  unfold tB
  rw [List.countP_map]
  have : ((fun z => eqd z (D.bl true)) ∘ fun i => D.bl (i == w)) = fun i : Nat => (i == w) == true := by funext i; exact eqd_bl _ _
  rw [this]
  have : ∀ w, w < 14 → (List.range 14).countP (fun i => (i == w) == true) = 1 := by decide
  exact this w h
theorem tB_idx {w : Nat} (h : w < 14) : (tB w)[w]? = some (.bl true) ∧ ∀ (m : Nat) (z : D), m < w → (tB w)[m]? = some z → eqd z (.bl true) = false := by
  unfold tB
  refine ⟨?_, fun m z hm hz => ?_⟩
  · rw [List.getElem?_map, List.getElem?_range h]; simp
  · rw [List.getElem?_map, List.getElem?_range (by omega)] at hz
    cases hz
    rw [eqd_bl]
    simp
    omega
theorem tB_shp (w : Nat) : shp (.lst (tB w)) = true := (Cl.lstOf (f := fun i => D.bl (i == w)) (k := 0) fun i => Cl.bl _).shp (by decide)
theorem kC_in {w : Nat} (h : w < 14) : kC.getD w "NoRow" ∈ CL := by
  have : ∀ w, w < 14 → kC.getD w "NoRow" ∈ CL := by decide
  exact this w h
theorem exW (c : Str) (w : Nat) (d : D) : excOf (⟨c, if w = 4 then some d else none⟩ : XD) = .exc c (if w = 4 then [d] else []) := by
  unfold excOf
  by_cases e : w = 4
  · simp [e]
  · simp [e]
def b__law_right : DS := dSeq (dAsg (dC .non) 2)
  (dSeq (dTry (dDrop (dCall s__law_raised (dCons (dVal 0) (dCons (dVal 1) (dNil))))) (hAsD CL "LandError" 3 (dAsg (dVal 3) 2) (hNil)))
  (dSeq (dIfS (dOr (dTest (dIsN (dVal 2))) (dNot (dTest (dUn (gIsc CL ["ValueError"]) (dVal 2))))) (dRet (dC (.bl false))) (dNext))
  (dSeq (dAsg (dCall s__law_truths (dCons (dVal 2) (dNil))) 4)
  (dSeq (dIfS (dOr (dTest (dNe (dMeth gCnt (dVal 4) (dC (.bl true))) (dC (.int 1)))) (dTest (dNe (dMeth gIdx (dVal 4) (dC (.bl true))) (dVal 0)))) (dRet (dC (.bl false))) (dNext))
  (dSeq (dIfS (dTest (dEq (dVal 0) (dC (.int 4)))) (dRet (dEq (dUn (gAt CL) (dVal 2)) (dVal 1))) (dNext))
  (dRet (dC (.bl true))))))))
theorem d__law_right (Z : Bi K mg) (C__law_truths : Callee P w K mg base CX0 1 "_law_truths" ["_law_e"] (spD K false s__law_truths)) (C__law_raised : Callee P w K mg base (L2.CX P w) 3 "_law_raised" ["_law_way", "_law_at"] (spD K false s__law_raised)) (f : Addr) (cdv : Value) (A : Around) (outer : List Env) (s : Shared) (H : Hp) (E : XK) (B : Bd) (hr : Room 3 (A.deeper (envOfC "_law_right" (defScope (top 19)) s.heap.objs.size f cdv))) :
    PSsD (cxOf CX0 P w K mg base N__law_right "_law_right" (defScope (top 19)) f cdv A outer s H E).nox B wx0 false (defBody (top 19)) b__law_right :=
  pssd_cons (psd_set (i := 2) sc__law_right.nd rfl (Or.inl rfl) (pd_non))
  (pssd_cons (psd_try rfl rfl (fun W pn xe tk hp => pssd_one (psd_expr (pd_calX tk C__law_raised m__law_raised hr (by decide) rfl (pad_cons (pd_val (pv 0)) (pad_cons (pd_val (pv 1)) (pad_nil)))))) (phd_as (y := "LandError") (i := 3) rfl rfl sc__law_right.nd rfl rfl Z.xa (by decide) Z.g_LandError rfl (fun _ _ => pssd_one (psd_set (i := 2) sc__law_right.nd rfl (Or.inl rfl) (pd_val (pv 3)))) (phd_nil rfl rfl takes0)))
  (pssd_cons (psd_if (pt_w (pw_o (pt_isN (pd_val (pv 2))) (pw_o1 (pt_nt (pt_plain (pd_isc1 (y := "ValueError") Z.xa (by decide) rfl Z.isinstance (pd_val (pv 2)) (pe_clsV rfl Z.ValueError))))))) (pssd_one (psd_ret (pd_bl))) (pssd_nil))
  (pssd_cons (psd_set (i := 4) sc__law_right.nd rfl (Or.inl rfl) (pd_cal C__law_truths m__law_truths hr (by decide) rfl (pad_cons (pd_val (pv 2)) (pad_nil))))
  (pssd_cons (psd_if (pt_w (pw_o (pt_ne hr (pd_count hr (pd_val (pv 4)) (pd_bl)) (pd_int)) (pw_o1 (pt_ne hr (pd_index hr (pd_val (pv 4)) (pd_bl)) (pd_val (pv 0)))))) (pssd_one (psd_ret (pd_bl))) (pssd_nil))
  (pssd_cons (psd_if (pt_eq hr (pd_val (pv 0)) (pd_int)) (pssd_one (psd_ret (pd_eq hr (pd_at Z.xa (pd_val (pv 2))) (pd_val (pv 1))))) (pssd_nil))
  (pssd_one (psd_ret (pd_bl))))))))
theorem p__law_right : ∀ ds Q E, s__law_right ds Q E → b__law_right (fnE false Q fun _ => False) (startD N__law_right ds) := by
  rintro _ Q E ⟨w, d, rfl, hw, hd, h⟩
  show b__law_right _ [.v (.int (w : Int)), .v d, .no, .no, .no]
  unfold b__law_right
  have c := kC_in hw
  walk_at "go"
  refine ⟨w, d, rfl, hw, ?_⟩
  have tr : ∀ {Q' : D → Prop} {E' : XD → Prop}, Q' (.lst (tB w)) → s__law_truths [.exc (kC.getD w "NoRow") (if w = 4 then [d] else [])] Q' E' := fun q => ⟨w, d, by unfold xdW; rw [exW], hw, q⟩
  have k4 : w = 4 → kC.getD w "NoRow" = "NoSpot" := fun e => by subst e; rfl
  have ti := tB_idx hw
  have tc := tB_cnt hw
  have ts := tB_shp w
  unfold xdW
  generalize kC.getD w "NoRow" = cN at *
  generalize tB w = T at *
  walk_at "go"
  rw [exW]
  walk_at "go"
  refine tr ?_
  walk_at "go"
  rw [tc]
  walk_at "go"
  rw [q_lidx]
  refine ⟨ts, shp_bl _, w, .bl true, ti.1, by rw [eqd_bl]; rfl, ti.2, ?_⟩
  walk_at "go"
  by_cases e : w = 4
  · subst e
    walk_at "go"
    rw [gEq_self hd]
    exact h
  · rw [sif_neg (by omega)]
    walk_at "go"
    exact h
theorem c__law_right (Z : Bi K mg) (C__law_truths : Callee P w K mg base CX0 1 "_law_truths" ["_law_e"] (spD K false s__law_truths)) (C__law_raised : Callee P w K mg base (L2.CX P w) 3 "_law_raised" ["_law_way", "_law_at"] (spD K false s__law_raised)) (F : ∃ fd, FunD K "_law_right" "_law_right" (defArgs (top 19)) (defBody (top 19)) (defScope (top 19)) [] [] (He.fAd K ("_law_right", none)) fd) (gl : mg "_law_right" = some (.ref (He.fAd K ("_law_right", none)))) : Callee P w K mg base CX0 4 "_law_right" ["_law_way", "_law_at"] (spD K false s__law_right) := by
  obtain ⟨fd, F⟩ := F
  exact cal_mk F gl (F.bindsN (ps := ["_law_way", "_law_at"]) fun _ _ _ _ _ _ us hl => match us, hl with | [_, _], _ => rfl) (fn_ok0 (k := 3) F sc__law_right l__law_right (fun cdv A outer s H E B hr => d__law_right Z C__law_truths C__law_raised _ cdv A outer s H E B hr) p__law_right)
/-! ### law -/
abbrev N_law : List Str := ["_law_script", "_law_way", "_law_cell"]
theorem sc_law : FnScope N_law ["_law_script"] (defScope (top 20)) := ⟨rfl, rfl, rfl, by decide +kernel, rfl, by decide +kernel, by decide +kernel⟩
def s_law : FD := fun ds Q E => ∃ ns : List Int, ds = [.lst (ns.map .int)] ∧ ns.length ≤ 63 ∧ Q (.bl true)
theorem m_law : MonoF s_law := fun _ _ _ _ _ k _ ⟨ns, e, h1, h⟩ => ⟨ns, e, h1, k _ h⟩
theorem l_law : ∀ ds Q E, s_law ds Q E → ds.length = 1 := fun _ _ _ ⟨ns, e, _⟩ => by rw [e]; rfl
theorem q_law (ns : List Int) (hl : ns.length ≤ 63) : ∀ Q E, Q (.bl true) → s_law [.lst (ns.map .int)] Q E := fun _ _ h => ⟨ns, rfl, hl, h⟩
def b_law : DS := dSeq (dFor (iR1 (dCons (dC (.int 14)) (dNil))) (tgName 1) (dIfS (dOr (dNot (dTest (dCall s__law_right (dCons (dVal 1) (dCons (dVal 1) (dNil)))))) (dNot (dTest (dCall s__law_right (dCons (dVal 1) (dCons (dC .non) (dNil))))))) (dRet (dC (.bl false))) (dNext)))
  (dSeq (dFor (iLst (dSlL (dVal 0) (oN) (oS (dC (.int 20))))) (tgName 2) (dIfS (dNot (dTest (dCall s__law_right (dCons (dMod (dVal 2) (dC (.int 14))) (dCons (dSub (dMod (dFdiv (dVal 2) (dC (.int 14))) (dPow (dC (.int 10)) (dC (.int 30)))) (dC (.int 7))) (dNil)))))) (dRet (dC (.bl false))) (dNext)))
  (dRet (dC (.bl true))))
theorem d_law (Z : Bi K mg) (C__law_right : Callee P w K mg base CX0 4 "_law_right" ["_law_way", "_law_at"] (spD K false s__law_right)) (f : Addr) (cdv : Value) (A : Around) (outer : List Env) (s : Shared) (H : Hp) (E : XK) (B : Bd) (hr : Room 4 (A.deeper (envOfC "law" (defScope (top 20)) s.heap.objs.size f cdv))) :
    PSsD (cxOf CX0 P w K mg base N_law "law" (defScope (top 20)) f cdv A outer s H E).nox B wx0 false (defBody (top 20)) b_law :=
  pssd_cons (psd_for PassesOwn.never rfl (pid_r1 rfl Z.range (pad_cons (pd_int) (pad_nil))) (pgd_name (i := 1) sc_law.nd rfl (Or.inl rfl)) (pssd_one (psd_if (pt_w (pw_o (pt_nt (pt_plain (pd_cal C__law_right m__law_right hr (by decide) rfl (pad_cons (pd_val (pv 1)) (pad_cons (pd_val (pv 1)) (pad_nil)))))) (pw_o1 (pt_nt (pt_plain (pd_cal C__law_right m__law_right hr (by decide) rfl (pad_cons (pd_val (pv 1)) (pad_cons (pd_non) (pad_nil))))))))) (pssd_one (psd_ret (pd_bl))) (pssd_nil))))
  (pssd_cons (psd_for PassesOwn.never rfl (pid_lst (pd_fresh (pf_sl (pd_val (pv 0)) (pod_none) (pod_some (pd_int))))) (pgd_name (i := 2) sc_law.nd rfl (Or.inl rfl)) (pssd_one (psd_if (pt_nt (pt_plain (pd_cal C__law_right m__law_right hr (by decide) rfl (pad_cons (pd_mod (pd_val (pv 2)) (pd_int)) (pad_cons (pd_sub (pd_mod (pd_fdiv (pd_val (pv 2)) (pd_int)) (pd_pow (pd_int) (pd_int))) (pd_int)) (pad_nil)))))) (pssd_one (psd_ret (pd_bl))) (pssd_nil))))
  (pssd_one (psd_ret (pd_bl))))
theorem p_law : ∀ ds Q E, s_law ds Q E → b_law (fnE false Q fun _ => False) (startD N_law ds) := by
  rintro _ Q E ⟨ns, rfl, hl, h⟩
  show b_law _ [.v (.lst (ns.map .int)), .no, .no]
  unfold b_law
  walk_at "gn"
  refine forD_all (fun δ => ∃ a1, δ = [.v (.lst (ns.map .int)), a1, .no]) ⟨_, rfl⟩ ?_ ?_
  · rintro _ _ hd ⟨a1, rfl⟩ R hR
    obtain ⟨i, hi, rfl⟩ := mem_rng hd
    rw [Int.zero_add]
    have hi' : i < 14 := hi
    walk_at "gn"
    refine ⟨i, _, rfl, hi', shp_int _, ?_⟩
    walk_at "gn"
    refine ⟨i, _, rfl, hi', shp_non, ?_⟩
    walk_at "gn"
    exact hR _ ⟨_, rfl⟩
  rintro _ ⟨a1, rfl⟩
  walk_at "gn"
  have e : ∃ ms : List Int, DL.cutD (ns.map D.int) none (some 20) = ms.map D.int := by
    refine ⟨ns.take 20, ?_⟩
    unfold DL.cutD
    rw [show (some (20 : Int)) = some ((20 : Nat) : Int) from rfl, HT.sIx_nat, HT.sIx_none]
    simp [List.map_take]
  obtain ⟨ms, e⟩ := e
  rw [e]
  refine forD_all (fun δ => ∃ a2, δ = [.v (.lst (ns.map .int)), a1, a2]) ⟨_, rfl⟩ ?_ ?_
  · rintro _ _ hm ⟨a2, rfl⟩ R hR
    obtain ⟨z, _, rfl⟩ := List.mem_map.mp hm
    walk_at "gn"
    have f := fmod_b (x := z) (m := 14) (by decide)
    refine ⟨(z.fmod 14).toNat, _, by rw [Int.toNat_of_nonneg f.1], by omega, shp_int _, ?_⟩
    walk_at "gn"
    exact hR _ ⟨_, rfl⟩
  · rintro _ ⟨a2, rfl⟩
    walk_at "gn"
    exact h
theorem c_law (Z : Bi K mg) (C__law_right : Callee P w K mg base CX0 4 "_law_right" ["_law_way", "_law_at"] (spD K false s__law_right)) (F : ∃ fd, FunD K "law" "law" (defArgs (top 20)) (defBody (top 20)) (defScope (top 20)) [] [] (He.fAd K ("law", none)) fd) (gl : mg "law" = some (.ref (He.fAd K ("law", none)))) : Callee P w K mg base CX0 5 "law" ["_law_script"] (spD K false s_law) := by
  obtain ⟨fd, F⟩ := F
  exact cal_mk F gl (F.bindsN (ps := ["_law_script"]) fun _ _ _ _ _ _ us hl => match us, hl with | [_], _ => rfl) (fn_ok0 (k := 4) F sc_law l_law (fun cdv A outer s H E B hr => d_law Z C__law_right _ cdv A outer s H E B hr) p_law)
end

def e__law_raised : He.DefD := ⟨("_law_raised", none), "_law_raised", "_law_raised", defArgs (top 17), defBody (top 17), defScope (top 17), [], []⟩
def e__law_truths : He.DefD := ⟨("_law_truths", none), "_law_truths", "_law_truths", defArgs (top 18), defBody (top 18), defScope (top 18), [], []⟩
def e__law_right : He.DefD := ⟨("_law_right", none), "_law_right", "_law_right", defArgs (top 19), defBody (top 19), defScope (top 19), [], []⟩
def e_law : He.DefD := ⟨("law", none), "law", "law", defArgs (top 20), defBody (top 20), defScope (top 20), [], []⟩
def e_init : He.DefD := ⟨("NoSpot", some "__init__"), "__init__", "NoSpot.__init__", defArgs topI, defBody topI, defScope topI, [], []⟩
def fn0 : List He.DefD := [e__law_raised, e__law_truths, e__law_right, e_law, e_init]
def fn : List He.DefD := fn0
def fa0 : List He.Fa := [.glo "_law_raised", .glo "_law_truths", .glo "_law_right", .glo "law", .free "ValueError", .free "isinstance", .free "range", .glo "LandError", .glo "NoBox", .glo "NoCount", .glo "NoDeed", .glo "NoLine", .glo "NoLot", .glo "NoName", .glo "NoNumber", .glo "NoRow", .glo "NoSpot", .glo "NoText", .glo "NoWeights", .glo "Taken", .glo "TooMany", .glo "Unknown", .exc "NoBox", .exc "NoCount", .exc "NoDeed", .exc "NoLine", .exc "NoLot", .exc "NoName", .exc "NoNumber", .exc "NoRow"]
def fa1 : List He.Fa := [.exc "NoText", .exc "NoWeights", .exc "Taken", .exc "TooMany", .exc "Unknown"]
def fa : List He.Fa := fa0 ++ fa1
def loose0 : List PySem.Str := ["LandError", "NoNumber", "NoLine", "NoBox", "TooMany", "NoSpot", "NoName", "Taken", "Unknown", "NoDeed", "NoLot", "NoCount", "NoWeights", "NoText", "NoRow", "_law_raised", "_law_truths", "_law_right"]
def loose : List PySem.Str := loose0
abbrev R : PySem.W.OpenRow := PySem.W.OpenLaw.row PySem.Challenge.rw_nearlands_k04_classes_of_refusals
def xb (K : PySem.W.Frag) : Bool := xaB K CL && nosB K "NoSpot" "LandError"
abbrev hk : PySem.W.Hook := hookC 5 xb fa fn
def ob (s : PySem.W.SharedT) : Bool × He.AlD := obC 5 xb fa fn (HandSHeadRun.getT s)
theorem ob_eq (s : PySem.W.SharedT) : ob s = hk.obs s.abs := obC_eq (HandSHeadRun.getT_eq s)
theorem run (w : World) : HandSHeadRun.RunEq R (PySem.W.view R.prog [20]) hk ob 6000 loose w := by
  intro os
  kernel_rfl
theorem facts {P : Program} {w : World} {K : PySem.W.Frag} {h : Heap} {mg : Str → Option Value} {f : Addr} (X : K.In h) (G : h.Ns mainGlobals mg) (hfa : mg ("law" : Str) = some (.ref f)) (hxb : xb K = true) (c : He.SaysD fa fn K) :
    ∃ fd : FuncData, (∀ (s : Shared) (v : Value), BindsTo s fd ⟨[v], []⟩ [("_law_script", v)]) ∧ ∀ base : Heap, K.In base → base.Ns mainGlobals mg → FnOk P w K mg base CX0 5 f fd ["_law_script"] (spD K false s_law) := by
  have F__law_raised := c.def_ 0 (d := e__law_raised) rfl
  have g__law_raised := He.glo_ok X G (c.fact 0 (f := .glo "_law_raised") rfl)
  have F__law_truths := c.def_ 1 (d := e__law_truths) rfl
  have g__law_truths := He.glo_ok X G (c.fact 1 (f := .glo "_law_truths") rfl)
  have F__law_right := c.def_ 2 (d := e__law_right) rfl
  have g__law_right := He.glo_ok X G (c.fact 2 (f := .glo "_law_right") rfl)
  have F_law := c.def_ 3 (d := e_law) rfl
  have g_law := He.glo_ok X G (c.fact 3 (f := .glo "law") rfl)
  have F_init := c.def_ 4 (d := e_init) rfl
  have hb := hxb
  simp only [xb, Bool.and_eq_true] at hb
  have Z : Bi K mg := ⟨He.free_ok X G (c.fact 4 (f := .free "ValueError") rfl), He.free_ok X G (c.fact 5 (f := .free "isinstance") rfl), He.free_ok X G (c.fact 6 (f := .free "range") rfl), He.glo_ok X G (c.fact 7 (f := .glo "LandError") rfl), He.glo_ok X G (c.fact 8 (f := .glo "NoBox") rfl), He.glo_ok X G (c.fact 9 (f := .glo "NoCount") rfl), He.glo_ok X G (c.fact 10 (f := .glo "NoDeed") rfl), He.glo_ok X G (c.fact 11 (f := .glo "NoLine") rfl), He.glo_ok X G (c.fact 12 (f := .glo "NoLot") rfl), He.glo_ok X G (c.fact 13 (f := .glo "NoName") rfl), He.glo_ok X G (c.fact 14 (f := .glo "NoNumber") rfl), He.glo_ok X G (c.fact 15 (f := .glo "NoRow") rfl), He.glo_ok X G (c.fact 16 (f := .glo "NoSpot") rfl), He.glo_ok X G (c.fact 17 (f := .glo "NoText") rfl), He.glo_ok X G (c.fact 18 (f := .glo "NoWeights") rfl), He.glo_ok X G (c.fact 19 (f := .glo "Taken") rfl), He.glo_ok X G (c.fact 20 (f := .glo "TooMany") rfl), He.glo_ok X G (c.fact 21 (f := .glo "Unknown") rfl), xaB_ok hb.1, nosB_ok hb.2, c.fact 22 (f := .exc "NoBox") rfl, c.fact 23 (f := .exc "NoCount") rfl, c.fact 24 (f := .exc "NoDeed") rfl, c.fact 25 (f := .exc "NoLine") rfl, c.fact 26 (f := .exc "NoLot") rfl, c.fact 27 (f := .exc "NoName") rfl, c.fact 28 (f := .exc "NoNumber") rfl, c.fact 29 (f := .exc "NoRow") rfl, c.fact 30 (f := .exc "NoText") rfl, c.fact 31 (f := .exc "NoWeights") rfl, c.fact 32 (f := .exc "Taken") rfl, c.fact 33 (f := .exc "TooMany") rfl, c.fact 34 (f := .exc "Unknown") rfl⟩
  have e := hfa.symm.trans g_law
  cases e
  obtain ⟨fd, F⟩ := F_law
  refine ⟨fd, fun s v => FunD.bindsA (ps := ["_law_script"]) F (fun _ _ _ _ _ _ us hl => match us, hl with | [_], _ => rfl) s [v] rfl, fun base _ _ => ?_⟩
  have CI := c_init (P := P) (w := w) (base := base) Z F_init
  have C__law_truths := c__law_truths (P := P) (w := w) (base := base) Z  F__law_truths g__law_truths
  have C__law_raised := c__law_raised (P := P) (w := w) (base := base) Z CI  F__law_raised g__law_raised
  have C__law_right := c__law_right (P := P) (w := w) (base := base) Z C__law_truths C__law_raised F__law_right g__law_right
  exact fn_ok0 (k := 4) F sc_law l_law (fun cdv A outer s H E B hr => d_law Z C__law_right _ cdv A outer s H E B hr) p_law
end G
open PySem PySem.W PySem.Calls PyProof.Rows
theorem PySem.Challenge.cw_nearlands_k04_classes_of_refusals_holds : PySem.Challenge.rw_nearlands_k04_classes_of_refusals.Holds := by
  w_on; o_law
  refine HandSHeadRun.head_any (r := OpenLaw.row PySem.Challenge.rw_nearlands_k04_classes_of_refusals) (q := view (OpenLaw.row PySem.Challenge.rw_nearlands_k04_classes_of_refusals).prog [20]) (H := G.hk) (ob := G.ob) (M := 6000) (loose := G.loose) (d := HandSHeadRun.topDef (OpenLaw.row PySem.Challenge.rw_nearlands_k04_classes_of_refusals).prog 20) (kwd := []) G.ob_eq
    (by kernel_rfl) (fun s => by kernel_rfl) G.run (by kernel_rfl) (by kernel_rfl) (by kernel_rfl) (by rfl) (by first | assumption | decide +kernel) (by decide +kernel) ⟨rfl, rfl, rfl, rfl, rfl, by decide +kernel⟩ ?hw ?hc
  case hw => w_witness2
  case hc =>
    refine L2.walk_ofE (l := PySem.Challenge.rw_nearlands_k04_classes_of_refusals) (n := 63) (k := 5) (x := "_law_script") (CX := L2.CX0) rfl (by decide) (by kernel_rfl) ⟨rfl, by decide, by decide⟩ ?F (fun _ _ _ _ z => z)
    intro w mg fa h Y Gn hmg0
    obtain ⟨K, KX, hxb, c⟩ := Y
    have hmg : mg ("law" : PySem.Str) = some (.ref fa) := by
      have e : (HandSHeadRun.topDef (OpenLaw.row PySem.Challenge.rw_nearlands_k04_classes_of_refusals).prog 20).name = ("law" : PySem.Str) := by kernel_rfl
      rw [← e]
      exact hmg0
    obtain ⟨fd, hb, hF⟩ := G.facts (P := (PySem.Challenge.rw_nearlands_k04_classes_of_refusals).prog) (w := w) KX Gn hmg hxb c
    exact ⟨K, fd, _, KX, hb, fun H a ns hl _ hS => DL.law_start hS (G.q_law ns hl), hF⟩
