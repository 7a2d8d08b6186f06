import PyProof.Rows.All
import Wide.All
import OpenK.AllK
import Wide.FinOn
import KE.KStateDown
import HandS.ForMost
import HandS.Deep
import HandS.ExcOwn
import HandS.TryOnly
import HandS.WordsExc
import HandS.CallSlots
import HandS.CallLocal
import HandS.Defaults
import HandS.Head2
import HandS.HeadHook4
import HandS.HeadWalk
import HandS.TupAny
import HandS.TupMul
import HandS.Wide
import HandS.WideBits
import HandS.Style
import HandS.IsInst
import HandS.Conv
import HandS.Walk
import KE.GoesZip
import KE.GoesMore
import KE.GoesEnum
import HandS.Zip
import HandS.Codes
import HandS.FStr
import KE.KExcSuper
import KE.KSuper
import HandS.ExcIs
import HandS.ExcField
import PySem.Challenge.RW_anyhelper_k01_whole_sayings_read
set_option Elab.async false
set_option linter.all false
set_option maxRecDepth 100000
set_option maxHeartbeats 1000000
/-! EV1: a program's values as trees; what a piece of the text does, told over such values (weakest preconditions), and that it is so over the hand layer. -/
namespace L2.EV
open PySem PySem.Spec PyProof.Rows

/-! ### values, memory -/
inductive D where
  | non | bl (b : Bool) | int (i : Int) | str (x : Str) | ty (n : String) | tup (xs : List D) | ct (xs : List D) | lis (xs : List D) | ref (a : Addr) | glob (x : Str)
/-- a list that never changes: known to the object, or one of the module -/
def FzL (K : PySem.W.Frag) (H : Hp) (a : Addr) (xs : List V) : Prop := (∃ o, H a = some (.frz o (.lst xs))) ∨
    ∃ (o : Obj) (its : Array Value) (n : Nat), K.lookup a = some o ∧ o.cls = .type "list" ∧ o.dict = none ∧ o.data = .seq its n ∧ its.size ≤ sizeLine ∧ Vals xs its.toList
/-- a tuple of the module -/
def CtT (K : PySem.W.Frag) (a : Addr) (xs : List V) : Prop := ∃ (o : Obj) (its : Array Value) (n : Nat), K.lookup a = some o ∧ o.cls = .type "tuple" ∧ o.data = .seq its n ∧ its.size ≤ sizeLine ∧ Vals xs its.toList
theorem CtT.seq {K : PySem.W.Frag} {H : Hp} {a : Addr} {xs : List V} (h : CtT K a xs) : SqT K H a xs := .inr h
theorem FzL.seq {K : PySem.W.Frag} {H : Hp} {a : Addr} {xs : List V} (h : FzL K H a xs) : SqL K H a xs := by
  rcases h with ⟨o, h⟩ | h
  · exact .inl (.inr ⟨o, h⟩)
  · exact .inr h
mutual
def DV (K : PySem.W.Frag) (H : Hp) : D → V → Prop
  | .non, v => v = .non
  | .bl b, v => v = .bl b
  | .int i, v => v = .int i
  | .str x, v => v = .str x
  | .ty n, v => v = .ty n
  | .ref a, v => v = .ref a
  | .glob x, v => v = .ref (He.ga K x)
  | .tup xs, v => ∃ a vs, v = .ref a ∧ H a = some (.tup vs) ∧ DVs K H xs vs
  | .ct xs, v => ∃ a vs, v = .ref a ∧ CtT K a vs ∧ DVs K H xs vs
  | .lis xs, v => ∃ a vs, v = .ref a ∧ FzL K H a vs ∧ DVs K H xs vs
def DVs (K : PySem.W.Frag) (H : Hp) : List D → List V → Prop
  | [], vs => vs = []
  | d :: ds, vs => ∃ v r, vs = v :: r ∧ DV K H d v ∧ DVs K H ds r
end
/-- tuples stay -/
def Keep (K : PySem.W.Frag) (H H' : Hp) : Prop := (∀ a vs, H a = some (.tup vs) → H' a = some (.tup vs)) ∧ ∀ a vs, FzL K H a vs → FzL K H' a vs
theorem Keep.refl {K : PySem.W.Frag} (H : Hp) : Keep K H H := ⟨fun _ _ h => h, fun _ _ h => h⟩
theorem Keep.trans {K : PySem.W.Frag} {H H1 H2 : Hp} (a : Keep K H H1) (b : Keep K H1 H2) : Keep K H H2 := ⟨fun c vs h => b.1 c vs (a.1 c vs h), fun c vs h => b.2 c vs (a.2 c vs h)⟩
mutual
theorem DV.keep {K : PySem.W.Frag} {H H' : Hp} (k : Keep K H H') : ∀ {d : D} {v : V}, DV K H d v → DV K H' d v
  | .non, _, h => by simpa only [DV] using h
  | .bl _, _, h => by simpa only [DV] using h
  | .int _, _, h => by simpa only [DV] using h
  | .str _, _, h => by simpa only [DV] using h
  | .ty _, _, h => by simpa only [DV] using h
  | .ref _, _, h => by simpa only [DV] using h
  | .glob _, _, h => by simpa only [DV] using h
  | .tup xs, v, h => by
    simp only [DV] at h ⊢
    obtain ⟨a, vs, e, h1, h2⟩ := h
    exact ⟨a, vs, e, k.1 _ _ h1, DVs.keep k h2⟩
  | .ct xs, v, h => by
    simp only [DV] at h ⊢
    obtain ⟨a, vs, e, h1, h2⟩ := h
    exact ⟨a, vs, e, h1, DVs.keep k h2⟩
  | .lis xs, v, h => by
    simp only [DV] at h ⊢
    obtain ⟨a, vs, e, h1, h2⟩ := h
    exact ⟨a, vs, e, k.2 _ _ h1, DVs.keep k h2⟩
theorem DVs.keep {K : PySem.W.Frag} {H H' : Hp} (k : Keep K H H') : ∀ {ds : List D} {vs : List V}, DVs K H ds vs → DVs K H' ds vs
  | [], _, h => by simpa only [DVs] using h
  | d :: ds, _, h => by
    simp only [DVs] at h ⊢
    obtain ⟨v, r, e, h1, h2⟩ := h
    exact ⟨v, r, e, DV.keep k h1, DVs.keep k h2⟩
end
section
variable {K : PySem.W.Frag} {H : Hp}
theorem DVs.nil : DVs K H [] [] := by simp only [DVs]
theorem DVs.cons {d : D} {v : V} {ds : List D} {vs : List V} (h : DV K H d v) (t : DVs K H ds vs) : DVs K H (d :: ds) (v :: vs) := by
  simp only [DVs]; exact ⟨v, vs, rfl, h, t⟩
theorem DVs.un {d : D} {ds : List D} {vs : List V} (h : DVs K H (d :: ds) vs) : ∃ v r, vs = v :: r ∧ DV K H d v ∧ DVs K H ds r := by simpa only [DVs] using h
theorem DVs.un0 {vs : List V} (h : DVs K H [] vs) : vs = [] := by simpa only [DVs] using h
theorem DVs.length : ∀ {ds : List D} {vs : List V}, DVs K H ds vs → vs.length = ds.length
  | [], vs, h => by rw [h.un0]; rfl
  | d :: ds, vs, h => by
    obtain ⟨v, r, rfl, _, t⟩ := h.un
    simp [DVs.length t]
theorem DVs.get : ∀ {ds : List D} {vs : List V} {i : Nat} {d : D}, DVs K H ds vs → ds[i]? = some d → ∃ v, vs[i]? = some v ∧ DV K H d v
  | [], _, _, _, _, e => by simp at e
  | d :: ds, vs, 0, d', h, e => by
    obtain ⟨v, r, rfl, h1, _⟩ := h.un
    have e' : d = d' := by simpa using e
    subst e'
    exact ⟨v, rfl, h1⟩
  | d :: ds, vs, i + 1, d', h, e => by
    obtain ⟨v, r, rfl, _, t⟩ := h.un
    exact DVs.get (i := i) t (by simpa using e)
theorem DVs.getV : ∀ {ds : List D} {vs : List V} {i : Nat} {v : V}, DVs K H ds vs → vs[i]? = some v → ∃ d, ds[i]? = some d ∧ DV K H d v
  | [], _, _, _, h, e => by rw [h.un0] at e; simp at e
  | d :: ds, vs, 0, v', h, e => by
    obtain ⟨v, r, rfl, h1, _⟩ := h.un
    have e' : v = v' := by simpa using e
    subst e'
    exact ⟨d, rfl, h1⟩
  | d :: ds, vs, i + 1, v', h, e => by
    obtain ⟨v, r, rfl, _, t⟩ := h.un
    exact DVs.getV (i := i) t (by simpa using e)
theorem DVs.append : ∀ {ds es : List D} {vs ws : List V}, DVs K H ds vs → DVs K H es ws → DVs K H (ds ++ es) (vs ++ ws)
  | [], _, _, _, h, t => by rw [h.un0]; exact t
  | d :: ds, _, _, _, h, t => by
    obtain ⟨v, r, rfl, h1, h2⟩ := h.un
    exact .cons h1 (DVs.append h2 t)
theorem DVs.take : ∀ {ds : List D} {vs : List V} (n : Nat), DVs K H ds vs → DVs K H (ds.take n) (vs.take n)
  | _, _, 0, _ => .nil
  | [], _, n + 1, h => by rw [h.un0]; exact .nil
  | d :: ds, _, n + 1, h => by
    obtain ⟨v, r, rfl, h1, h2⟩ := h.un
    exact .cons h1 (DVs.take n h2)
theorem DVs.drop : ∀ {ds : List D} {vs : List V} (n : Nat), DVs K H ds vs → DVs K H (ds.drop n) (vs.drop n)
  | _, _, 0, h => h
  | [], _, n + 1, h => by rw [h.un0]; exact .nil
  | d :: ds, _, n + 1, h => by
    obtain ⟨v, r, rfl, h1, h2⟩ := h.un
    exact DVs.drop n h2
theorem DVs.set {d : D} {v : V} (hv : DV K H d v) : ∀ {ds : List D} {vs : List V} (i : Nat), DVs K H ds vs → DVs K H (ds.set i d) (vs.set i v)
  | [], _, _, h => by rw [h.un0]; exact .nil
  | e :: ds, _, 0, h => by
    obtain ⟨_, r, rfl, _, h2⟩ := h.un
    exact .cons hv h2
  | e :: ds, _, i + 1, h => by
    obtain ⟨_, r, rfl, h1, h2⟩ := h.un
    exact .cons h1 (DVs.set hv i h2)
theorem DVs.reverse : ∀ {ds : List D} {vs : List V}, DVs K H ds vs → DVs K H ds.reverse vs.reverse
  | [], _, h => by rw [h.un0]; exact .nil
  | d :: ds, _, h => by
    obtain ⟨v, r, rfl, h1, h2⟩ := h.un
    rw [List.reverse_cons, List.reverse_cons]
    exact (DVs.reverse h2).append (.cons h1 .nil)
theorem DVs.dropLast {ds : List D} {vs : List V} (h : DVs K H ds vs) : DVs K H ds.dropLast vs.dropLast := by
  rw [List.dropLast_eq_take, List.dropLast_eq_take, h.length]
  exact h.take _
theorem DVs.rep {ds : List D} {vs : List V} (h : DVs K H ds vs) : ∀ k : Nat, DVs K H (List.replicate k ds).flatten (List.replicate k vs).flatten
  | 0 => .nil
  | k + 1 => by
    rw [List.replicate_succ, List.replicate_succ, List.flatten_cons, List.flatten_cons]
    exact h.append (DVs.rep h k)
theorem DVs.ints : ∀ ns : List Int, DVs K H (ns.map D.int) (ns.map V.int)
  | [] => .nil
  | n :: ns => .cons (by simp only [DV]) (DVs.ints ns)
end

/-- a thing that can change -/
inductive MO where
  | lst (xs : List D) | dK (kvs : List (Key × D)) | dT (kvs : List (List Key × D)) | ins (C : Str) (fs : List (Str × D)) | xd (fs : List (Str × D))
def KD {κ : Type} (K : PySem.W.Frag) (H : Hp) : List (κ × D) → List (κ × V) → Prop
  | [], vs => vs = []
  | p :: ps, vs => ∃ v r, vs = (p.1, v) :: r ∧ DV K H p.2 v ∧ KD K H ps r
theorem KD.keep {κ : Type} {K : PySem.W.Frag} {H H' : Hp} (k : Keep K H H') : ∀ {ps : List (κ × D)} {vs : List (κ × V)}, KD K H ps vs → KD K H' ps vs
  | [], _, h => h
  | p :: ps, _, ⟨v, r, e, h1, h2⟩ => ⟨v, r, e, h1.keep k, KD.keep k h2⟩
def MOk (K : PySem.W.Frag) (H : Hp) (a : Addr) : MO → Prop
  | .lst xs => ∃ vs, H a = some (.lst vs) ∧ DVs K H xs vs
  | .dK kvs => ∃ vs, H a = some (.dK vs) ∧ KD K H kvs vs
  | .dT kvs => ∃ vs, H a = some (.dT vs) ∧ KD K H kvs vs
  | .ins C fs => ∃ dx vs, H a = some (.ins (He.ga K C) dx vs) ∧ KD K H fs vs
  | .xd fs => ∃ vs, H a = some (.xd vs) ∧ KD K H fs vs
abbrev Mem := Addr → Option MO
def mup (m : Mem) (a : Addr) (o : MO) : Mem := fun b => if b = a then some o else m b
@[simp] theorem mup_same {m : Mem} {a : Addr} {o : MO} : mup m a o a = some o := if_pos rfl
theorem mup_ne {m : Mem} {a b : Addr} {o : MO} (h : b ≠ a) : mup m a o b = m b := if_neg h
@[simp] theorem mup_mup {m : Mem} {a : Addr} {o u : MO} : mup (mup m a o) a u = mup m a u := by
  funext b; unfold mup; split <;> rfl
theorem mup_comm {m : Mem} {a b : Addr} {o u : MO} (h : a ≠ b) : mup (mup m a o) b u = mup (mup m b u) a o := by
  funext c; unfold mup; by_cases h1 : c = b
  · have : c ≠ a := fun e => h (e.symm.trans h1)
    simp [h1, this, Ne.symm h]
  · simp [h1]
theorem mup_self {m : Mem} {a : Addr} {o : MO} (h : m a = some o) : mup m a o = m := by
  funext b; unfold mup; split
  · rename_i e; rw [e, h]
  · rfl
theorem ne_new {m : Mem} {a p : Addr} {o : MO} (h : m a = some o) (hp : m p = none) : a ≠ p := fun e => by rw [e, hp] at h; cases h
theorem ne_new' {m : Mem} {a p : Addr} {o : MO} (h : m a = some o) (hp : m p = none) : p ≠ a := (ne_new h hp).symm
def MemOk (K : PySem.W.Frag) (m : Mem) (H : Hp) : Prop := ∀ a o, m a = some o → MOk K H a o
def Sub (m m' : Mem) : Prop := ∀ a o, m a = some o → m' a = some o
theorem Sub.refl (m : Mem) : Sub m m := fun _ _ h => h
theorem Sub.trans {a b c : Mem} (h : Sub a b) (k : Sub b c) : Sub a c := fun x o e => k x o (h x o e)
theorem Sub.new {m m' : Mem} {p : Addr} {o : MO} (h : Sub m m') (hp : m p = none) : Sub m (mup m' p o) := fun a o' e => by
  rw [mup_ne (ne_new e hp)]; exact h a o' e
theorem Sub.none {m m' : Mem} {p : Addr} (h : Sub m m') (hp : m' p = none) : m p = none := by
  cases e : m p with
  | none => rfl
  | some o => rw [h p o e] at hp; cases hp
theorem Sub.up {m m' : Mem} {p : Addr} {o : MO} (h : Sub m m') : Sub (mup m p o) (mup m' p o) := fun a o' e => by
  unfold mup at e ⊢
  split
  · rename_i q; rw [if_pos q] at e; exact e
  · rename_i q; rw [if_neg q] at e; exact h a o' e
theorem MemOk.sub {K : PySem.W.Frag} {m m' : Mem} {H : Hp} (h : MemOk K m' H) (s : Sub m m') : MemOk K m H := fun a o e => h a o (s a o e)
/-- what may be changed or is new: no tuple, nothing known for ever -/
def Loose (o : Option HO) : Prop := match o with
  | some (.tup _) => False
  | some (.frz _ _) => False
  | _ => True
section
variable {K : PySem.W.Frag} {H : Hp}
theorem keep_upd {p : Addr} {o : HO} (h : Loose (H p)) : Keep K H (upd H p o) := by
  refine ⟨fun a vs q => ?_, fun a vs q => ?_⟩
  · rw [upd_ne (fun e => by subst e; rw [q] at h; exact h)]; exact q
  · rcases q with ⟨ob, q⟩ | q
    · refine .inl ⟨ob, ?_⟩
      rw [upd_ne (fun e => by subst e; rw [q] at h; exact h)]; exact q
    · exact .inr q
theorem MOk.keep {H' : Hp} {b : Addr} {o : MO} (x : MOk K H b o) (k : Keep K H H') (e : ∀ u, H b = some u → H' b = some u) : MOk K H' b o := by
  cases o with
  | lst xs => obtain ⟨vs, h1, h2⟩ := x; exact ⟨vs, e _ h1, h2.keep k⟩
  | dK kvs => obtain ⟨vs, h1, h2⟩ := x; exact ⟨vs, e _ h1, h2.keep k⟩
  | dT kvs => obtain ⟨vs, h1, h2⟩ := x; exact ⟨vs, e _ h1, h2.keep k⟩
  | ins C fs => obtain ⟨dx, vs, h1, h2⟩ := x; exact ⟨dx, vs, e _ h1, h2.keep k⟩
  | xd fs => obtain ⟨vs, h1, h2⟩ := x; exact ⟨vs, e _ h1, h2.keep k⟩
theorem MemOk.upd {m : Mem} {p : Addr} {o : HO} {u : MO} (x : MemOk K m H) (h : Loose (H p)) (n : MOk K (upd H p o) p u) : MemOk K (mup m p u) (upd H p o) := fun b q e => by
  by_cases hb : b = p
  · subst hb; rw [mup_same] at e; cases e; exact n
  · rw [mup_ne hb] at e
    exact (x b q e).keep (keep_upd h) fun u hu => by rw [upd_ne hb]; exact hu
theorem MemOk.keeps {H' : Hp} {m : Mem} (x : MemOk K m H) (k : Keep K H H') (e : ∀ b o u, m b = some o → H b = some u → H' b = some u) : MemOk K m H' := fun b o h => (x b o h).keep k fun u hu => e b o u h hu
/-- a new thing that the memory needn't know (a tuple) -/
theorem MemOk.new {m : Mem} {p : Addr} {o : HO} (x : MemOk K m H) (h : H p = none) : MemOk K m (L2.upd H p o) :=
  x.keeps (keep_upd (by rw [h]; trivial)) fun b o u _ hu => by
    rw [upd_ne (fun e => by rw [e, h] at hu; cases hu)]; exact hu
theorem MOk.some {b : Addr} {o : MO} (x : MOk K H b o) : ∃ u, H b = some u := by
  cases o with
  | lst xs => obtain ⟨vs, h1, _⟩ := x; exact ⟨_, h1⟩
  | dK xs => obtain ⟨vs, h1, _⟩ := x; exact ⟨_, h1⟩
  | dT xs => obtain ⟨vs, h1, _⟩ := x; exact ⟨_, h1⟩
  | ins C xs => obtain ⟨_, vs, h1, _⟩ := x; exact ⟨_, h1⟩
  | xd xs => obtain ⟨vs, h1, _⟩ := x; exact ⟨_, h1⟩
theorem MemOk.none {m : Mem} {p : Addr} (x : MemOk K m H) (h : H p = none) : m p = none := by
  cases e : m p with
  | none => rfl
  | some o => obtain ⟨u, hu⟩ := (x p o e).some; rw [h] at hu; cases hu
end
end L2.EV
set_option maxHeartbeats 1000000
/-! EV2: readings over trees; expressions, tests, arguments, small statements. -/
namespace L2.EV
open PySem PySem.Spec PyProof.Rows

abbrev Sl := List (Option D)
def SlOk (K : PySem.W.Frag) (H : Hp) (e : Sl) (σ : St) : Prop := σ.length = e.length ∧ ∀ (i : Nat) (d : D), e[i]? = some (some d) → ∃ v, σ[i]? = some (some v) ∧ DV K H d v
theorem SlOk.keep {K : PySem.W.Frag} {H H' : Hp} {e : Sl} {σ : St} (x : SlOk K H e σ) (k : Keep K H H') : SlOk K H' e σ := ⟨x.1, fun i d h => let ⟨v, h1, h2⟩ := x.2 i d h; ⟨v, h1, h2.keep k⟩⟩
theorem SlOk.set {K : PySem.W.Frag} {H : Hp} {e : Sl} {σ : St} {d : D} {v : V} (x : SlOk K H e σ) (i : Nat) (h : DV K H d v) : SlOk K H (e.set i (some d)) (σ.set i (some v)) := by
  refine ⟨by simp [x.1], fun j c q => ?_⟩
  by_cases hj : j = i
  · subst hj
    by_cases hl : j < e.length
    · rw [List.getElem?_set_self hl] at q
      cases q
      exact ⟨v, by rw [List.getElem?_set_self (by rw [x.1]; exact hl)], h⟩
    · rw [List.getElem?_eq_none (by simpa using hl)] at q; cases q
  · rw [List.getElem?_set_ne (Ne.symm hj)] at q
    obtain ⟨w, h1, h2⟩ := x.2 j c q
    exact ⟨w, by rw [List.getElem?_set_ne (Ne.symm hj)]; exact h1, h2⟩
theorem SlOk.unset {K : PySem.W.Frag} {H : Hp} {e : Sl} {σ : St} (x : SlOk K H e σ) (i : Nat) : SlOk K H (e.set i none) (σ.set i none) := by
  refine ⟨by simp [x.1], fun j c q => ?_⟩
  by_cases hj : j = i
  · subst hj
    by_cases hl : j < e.length
    · rw [List.getElem?_set_self hl] at q; cases q
    · rw [List.getElem?_eq_none (by simpa using hl)] at q; cases q
  · rw [List.getElem?_set_ne (Ne.symm hj)] at q
    obtain ⟨w, h1, h2⟩ := x.2 j c q
    exact ⟨w, by rw [List.getElem?_set_ne (Ne.symm hj)]; exact h1, h2⟩
/-- a slot that is not told -/
theorem SlOk.any {K : PySem.W.Frag} {H : Hp} {e : Sl} {σ : St} (x : SlOk K H e σ) (i : Nat) (o : Option V) : SlOk K H (e.set i none) (σ.set i o) := by
  refine ⟨by simp [x.1], fun j c q => ?_⟩
  by_cases hj : j = i
  · subst hj
    by_cases hl : j < e.length
    · rw [List.getElem?_set_self hl] at q; cases q
    · rw [List.getElem?_eq_none (by simpa using hl)] at q; cases q
  · rw [List.getElem?_set_ne (Ne.symm hj)] at q
    obtain ⟨w, h1, h2⟩ := x.2 j c q
    exact ⟨w, by rw [List.getElem?_set_ne (Ne.symm hj)]; exact h1, h2⟩

abbrev QD := D → Mem → Prop
abbrev XD := Str → Option Addr → Mem → Prop
abbrev EE := Sl → Mem → QD → XD → Prop
abbrev ET := Sl → Mem → (Bool → Mem → Prop) → XD → Prop
abbrev EA := Sl → Mem → (List D → Mem → Prop) → XD → Prop
structure Zs where
  nx : Sl → Mem → Prop
  rt : QD
  bk : Sl → Mem → Prop
  ct : Sl → Mem → Prop
  ex : Str → Option Addr → Sl → Mem → Prop
abbrev ES := Sl → Mem → Zs → Prop

section
variable (K : PySem.W.Frag)
def CQ (H : Hp) (Q0 : QD) (Q : VK) : Prop := ∀ d m' H' v, Q0 d m' → Keep K H H' → MemOk K m' H' → DV K H' d v → Q v H'
def CB (H : Hp) (Q0 : Bool → Mem → Prop) (Q : Bool → Hp → Prop) : Prop := ∀ b m' H', Q0 b m' → Keep K H H' → MemOk K m' H' → Q b H'
def CA (H : Hp) (Q0 : List D → Mem → Prop) (Q : List V → Hp → Prop) : Prop := ∀ ds m' H' vs, Q0 ds m' → Keep K H H' → MemOk K m' H' → DVs K H' ds vs → Q vs H'
def CE (H : Hp) (X0 : XD) (E : XK) : Prop := ∀ c dx m' H', X0 c dx m' → Keep K H H' → MemOk K m' H' → E (.ref (He.ga K c)) dx H'
structure CZ (H : Hp) (W : WX) (Z : Zs) (D : Ends) : Prop where
  nx : ∀ e' m' σ' H', Z.nx e' m' → Keep K H H' → SlOk K H' e' σ' → MemOk K m' H' → D.nx σ' H'
  rt : ∀ d m' H' v, Z.rt d m' → Keep K H H' → MemOk K m' H' → DV K H' d v → D.rt v H'
  bk : ∀ e' m' σ' H', Z.bk e' m' → Keep K H H' → SlOk K H' e' σ' → MemOk K m' H' → D.bk σ' H'
  ct : ∀ e' m' σ' H', Z.ct e' m' → Keep K H H' → SlOk K H' e' σ' → MemOk K m' H' → D.ct σ' H'
  ex : ∀ c dx e' m' σ' H', Z.ex c dx e' m' → Keep K H H' → SlOk K H' e' σ' → MemOk K m' H' → W (.ref (He.ga K c)) dx σ' H'
def RE (W : WX) (r : EE) : TE := fun σ H Q => ∃ e m Q0 X0, SlOk K H e σ ∧ MemOk K m H ∧ r e m Q0 X0 ∧ CQ K H Q0 Q ∧ CE K H X0 (WE W σ)
def RT (W : WX) (r : ET) : TT := fun σ H Q => ∃ e m Q0 X0, SlOk K H e σ ∧ MemOk K m H ∧ r e m Q0 X0 ∧ CB K H Q0 Q ∧ CE K H X0 (WE W σ)
def RA (W : WX) (r : EA) : TA := fun σ H Q => ∃ e m Q0 X0, SlOk K H e σ ∧ MemOk K m H ∧ r e m Q0 X0 ∧ CA K H Q0 Q ∧ CE K H X0 (WE W σ)
def RS (W : WX) (r : ES) : TS := fun D σ H => ∃ e m Z, SlOk K H e σ ∧ MemOk K m H ∧ r e m Z ∧ CZ K H W Z D
end
section
variable {K : PySem.W.Frag} {H H1 : Hp} {W : WX}
theorem CQ.keep {Q0 : QD} {Q : VK} (h : CQ K H Q0 Q) (k : Keep K H H1) : CQ K H1 Q0 Q := fun d m' H' v q k' => h d m' H' v q (k.trans k')
theorem CB.keep {Q0 : Bool → Mem → Prop} {Q : Bool → Hp → Prop} (h : CB K H Q0 Q) (k : Keep K H H1) : CB K H1 Q0 Q := fun d m' H' q k' => h d m' H' q (k.trans k')
theorem CA.keep {Q0 : List D → Mem → Prop} {Q : List V → Hp → Prop} (h : CA K H Q0 Q) (k : Keep K H H1) : CA K H1 Q0 Q := fun d m' H' v q k' => h d m' H' v q (k.trans k')
theorem CE.keep {X0 : XD} {E : XK} (h : CE K H X0 E) (k : Keep K H H1) : CE K H1 X0 E := fun c dx m' H' q k' => h c dx m' H' q (k.trans k')
theorem CZ.keep {Z : Zs} {D : Ends} (h : CZ K H W Z D) (k : Keep K H H1) : CZ K H1 W Z D :=
  ⟨fun e m σ H' q k' => h.nx e m σ H' q (k.trans k'), fun d m H' v q k' => h.rt d m H' v q (k.trans k'), fun e m σ H' q k' => h.bk e m σ H' q (k.trans k'), fun e m σ H' q k' => h.ct e m σ H' q (k.trans k'),
    fun c dx e m σ H' q k' => h.ex c dx e m σ H' q (k.trans k')⟩
end

section
variable {X : Cx}
theorem PEimp {e : Expr} {t t' : TE} (h : PE X e t) (k : ∀ σ H Q, t' σ H Q → t σ H Q) : PE X e t' := ⟨fun pins s σ H Q I q => h.run pins s σ H Q I (k _ _ _ q)⟩
theorem PTimp {e : Expr} {t t' : TT} (h : PT X e t) (k : ∀ σ H Q, t' σ H Q → t σ H Q) : PT X e t' := ⟨fun pins s σ H Q I q => h.run pins s σ H Q I (k _ _ _ q)⟩
theorem PAimp {e : List Expr} {t t' : TA} (h : PA X e t) (k : ∀ σ H Q, t' σ H Q → t σ H Q) : PA X e t' := ⟨fun pos pins s σ H Q I q => h.run pos pins s σ H Q I (k _ _ _ q)⟩
theorem PWimp {e : Expr} {t t' : TT} (h : PW X e t) (k : ∀ σ H Q, t' σ H Q → t σ H Q) : PW X e t' := ⟨fun wh pins s σ H Q I q => h.run wh pins s σ H Q I (k _ _ _ q)⟩
theorem PSimp {e : Stmt} {t t' : TS} (h : PS X e t) (k : ∀ D σ H, t' D σ H → t D σ H) : PS X e t' := ⟨fun pins s σ H D I q => h.run pins s σ H D I (k _ _ _ q)⟩
theorem PSsimp {e : List Stmt} {t t' : TS} (h : PSs X e t) (k : ∀ D σ H, t' D σ H → t D σ H) : PSs X e t' := ⟨fun pins s σ H D I q => h.run pins s σ H D I (k _ _ _ q)⟩
theorem PEor {e : Expr} {t t' : TE} (h : PE X e t) (h' : PE X e t') : PE X e (fun σ H Q => t σ H Q ∨ t' σ H Q) := ⟨fun pins s σ H Q I q => q.elim (h.run pins s σ H Q I) (h'.run pins s σ H Q I)⟩
theorem PTor {e : Expr} {t t' : TT} (h : PT X e t) (h' : PT X e t') : PT X e (fun σ H Q => t σ H Q ∨ t' σ H Q) := ⟨fun pins s σ H Q I q => q.elim (h.run pins s σ H Q I) (h'.run pins s σ H Q I)⟩
theorem PIor {tg e : Expr} {t t' : TI} (h : PI X tg e t) (h' : PI X tg e t') : PI X tg e (fun σ H Q => t σ H Q ∨ t' σ H Q) := ⟨fun pins s σ H Q I q => q.elim (h.run pins s σ H Q I) (h'.run pins s σ H Q I)⟩
end

/-! ### names, constants -/
def eVar (i : Nat) : EE := fun e m Q _ => match e[i]? with
  | some (some d) => Q d m
  | _ => False
def eK (d : D) : EE := fun _ m Q _ => Q d m
def GV (K : PySem.W.Frag) (mg : Str → Option Value) (x : Str) (d : D) : Prop := ∃ u v, mg x = some u ∧ RelV v u ∧ ∀ H, DV K H d v
section
variable {X : Cx} {W : WX} {pos : Pos}
theorem ev_var (i : Nat) {x : Str} (hN : X.N[i]? = some x := by rfl) (hv : Vis X.env.scope x := by first | exact Or.inl rfl | exact Or.inr (Or.inl rfl) | exact Or.inr (Or.inr rfl)) (hd : (x == ("__debug__" : Str)) = false := by decide)
    (hcd : (x == ("__classdict__" : Str)) = false := by decide) : PE X (.Name x pos) (RE X.K W (eVar i)) := PEimp (pe_var hN hv hd hcd) fun σ H Q ⟨e, m, Q0, X0, hE, hM, h, hQ, _⟩ => by
  unfold eVar at h
  cases q : e[i]? with
  | none => rw [q] at h; exact h.elim
  | some o =>
    rw [q] at h
    cases o with
    | none => exact h.elim
    | some d =>
      obtain ⟨v, h1, h2⟩ := hE.2 i d q
      exact ⟨v, h1, hQ d m H v h (Keep.refl H) hM h2⟩
theorem constK {e : Expr} {v : V} {d : D} (h : PE X e (tC v)) (hd : ∀ H, DV X.K H d v) : PE X e (RE X.K W (eK d)) := PEimp h fun σ H Q ⟨e, m, Q0, X0, hE, hM, h, hQ, _⟩ => hQ d m H v h (Keep.refl H) hM (hd H)
theorem ev_int {i j} : PE X (.Constant (.int i) j pos) (RE X.K W (eK (.int i))) := constK pe_int fun _ => by simp only [DV]
theorem ev_bl {b j} : PE X (.Constant (.bool b) j pos) (RE X.K W (eK (.bl b))) := constK pe_bl fun _ => by simp only [DV]
theorem ev_non {j} : PE X (.Constant .none j pos) (RE X.K W (eK .non)) := constK pe_non fun _ => by simp only [DV]
theorem ev_str {x j} : PE X (.Constant (.str x) j pos) (RE X.K W (eK (.str x))) := constK pe_str fun _ => by simp only [DV]
theorem ev_glob {x : Str} {d : D} (h : GV X.K X.mg x d) (hg : Gl X x := by rfl) (hd : (x == ("__debug__" : Str)) = false := by decide) : PE X (.Name x pos) (RE X.K W (eK d)) := by
  obtain ⟨u, v, h1, h2, h3⟩ := h
  exact constK (pe_glob hg h1 h2 hd) h3
/-- a built-in class as a value -/
theorem ev_ty {x : Str} {n : String} (hm : X.mg x = none) (hv : bootBuiltins x = some (.type n)) (hg : Gl X x := by rfl) (hn : x ≠ "__name__" := by decide) (hd : (x == ("__debug__" : Str)) = false := by decide) : PE X (.Name x pos) (RE X.K W (eK (.ty n))) :=
  constK (pe_bltn (v := .ty n) hg hm hv rfl hn hd) fun _ => by simp only [DV]
end

/-! ### by values: operators -/
abbrev F2 := D → D → Mem → QD → Prop
abbrev F1 := D → Mem → QD → Prop
abbrev FL := List D → Mem → QD → Prop
section
variable (K : PySem.W.Frag)
def RV2 (f : F2) : R2 := fun x y H Q => ∃ m d1 d2 Q0, MemOk K m H ∧ DV K H d1 x ∧ DV K H d2 y ∧ f d1 d2 m Q0 ∧ CQ K H Q0 Q
def RV1 (f : F1) : V → Hp → VK → Prop := fun x H Q => ∃ m d Q0, MemOk K m H ∧ DV K H d x ∧ f d m Q0 ∧ CQ K H Q0 Q
def RVL (f : FL) : List V → Hp → VK → Prop := fun vs H Q => ∃ m ds Q0, MemOk K m H ∧ DVs K H ds vs ∧ f ds m Q0 ∧ CQ K H Q0 Q
end
def eBin (f : F2) (a b : EE) : EE := fun e m Q X => a e m (fun x m1 => b e m1 (fun y m2 => f x y m2 Q) X) X
def eUn (f : F1) (a : EE) : EE := fun e m Q X => a e m (fun x m1 => f x m1 Q) X
def bK (Q : Bool → Mem → Prop) (d : D) (m : Mem) : Prop := match d with
  | .bl k => Q k m
  | _ => False
@[simp] theorem bK_bl {Q : Bool → Mem → Prop} {k : Bool} {m : Mem} : bK Q (.bl k) m = Q k m := rfl
def tOf (r : EE) : ET := fun e m Q X => r e m (bK Q) X
section
variable {X : Cx} {W : WX} {pos : Pos} {a b c : Expr} {ra rb rc : EE}
theorem op2 {σ : St} {H : Hp} {Q : VK} {f : F2} (h : RE X.K W (eBin f ra rb) σ H Q) : tOp (RV2 X.K f) (RE X.K W ra) (RE X.K W rb) σ H Q := by
  obtain ⟨e, m, Q0, X0, hE, hM, h, hQ, hX⟩ := h
  refine ⟨e, m, _, X0, hE, hM, h, fun d m1 H1 v h1 k1 hM1 dv1 => ?_, hX⟩
  refine ⟨e, m1, _, X0, hE.keep k1, hM1, h1, fun d2 m2 H2 u h2 k2 hM2 dv2 => ?_, hX.keep k1⟩
  exact ⟨m2, d, d2, Q0, hM2, dv1.keep k2, dv2, h2, hQ.keep (k1.trans k2)⟩
theorem ev_bin {op : Operator} {f : F2} (ho : OpR X (binaryOp op) (RV2 X.K f)) (ha : PE X a (RE X.K W ra)) (hb : PE X b (RE X.K W rb)) : PE X (.BinOp a op b pos) (RE X.K W (eBin f ra rb)) := PEimp (pe_op ho ha hb) fun _ _ _ h => op2 h
theorem ev_cmp {op : CmpOp} {f : F2} (ho : OpR X (compareOp op) (RV2 X.K f)) (ha : PE X a (RE X.K W ra)) (hb : PE X b (RE X.K W rb)) (hm : behindInMarks op b = false := by first | exact nomark _ | rfl) : PE X (.Compare a [op] [b] pos) (RE X.K W (eBin f ra rb)) :=
  PEimp (pe_cmpR ho ha hb hm) fun _ _ _ h => op2 h
theorem re_mono {r : EE} {σ : St} {H : Hp} {Q Q' : VK} (h : RE X.K W r σ H Q) (k : ∀ v H', Q v H' → Q' v H') : RE X.K W r σ H Q' := by
  obtain ⟨e, m, Q0, X0, hE, hM, h, hQ, hX⟩ := h
  exact ⟨e, m, Q0, X0, hE, hM, h, fun d m' H' v a b c d' => k _ _ (hQ d m' H' v a b c d'), hX⟩
/-- the end of a test by a value -/
theorem tof_end {Q0 : Bool → Mem → Prop} {Q : Bool → Hp → Prop} {H H' : Hp} {d : D} {m' : Mem} {v : V} (hQ : CB X.K H Q0 Q) (k : Keep X.K H H') (hM : MemOk X.K m' H') (hd : DV X.K H' d v)
    (h : bK Q0 d m') : ∃ c, v = .bl c ∧ Q c H' := by
  cases d with
  | bl c => exact ⟨c, by simpa only [DV] using hd, hQ c m' H' h k hM⟩
  | _ => exact h.elim
theorem ev_tcmp {op : CmpOp} {f : F2} (ho : OpR X (compareOp op) (RV2 X.K f)) (ha : PE X a (RE X.K W ra)) (hb : PE X b (RE X.K W rb)) (hm : behindInMarks op b = false := by first | exact nomark _ | rfl) : PT X (.Compare a [op] [b] pos) (RT X.K W (tOf (eBin f ra rb))) :=
  PTimp (pt_cmpR ho ha hb hm) fun σ H Q ⟨e, m, Q0, X0, hE, hM, h, hQ, hX⟩ => op2 ⟨e, m, _, X0, hE, hM, h, fun d m' H' v h' k' hM' hd' => tof_end hQ k' hM' hd' h', hX⟩
/-- a < b < c -/
def eChain (f g : F2) (a b c : EE) : EE := fun e m Q X => a e m (fun x m1 => b e m1 (fun y m2 => f x y m2 (fun z m3 => match z with
  | .bl true => c e m3 (fun w m4 => g y w m4 Q) X
  | .bl false => Q (.bl false) m3
  | _ => False)) X) X
theorem chain2 {σ : St} {H : Hp} {Q : VK} {f g : F2} (h : RE X.K W (eChain f g ra rb rc) σ H Q) : tChain (RV2 X.K f) (RV2 X.K g) (RE X.K W ra) (RE X.K W rb) (RE X.K W rc) σ H Q := by
  obtain ⟨e, m, Q0, X0, hE, hM, h, hQ, hX⟩ := h
  refine ⟨e, m, _, X0, hE, hM, h, fun d m1 H1 v h1 k1 hM1 dv1 => ?_, hX⟩
  refine ⟨e, m1, _, X0, hE.keep k1, hM1, h1, fun d2 m2 H2 u h2 k2 hM2 dv2 => ?_, hX.keep k1⟩
  refine ⟨m2, d, d2, _, hM2, dv1.keep k2, dv2, h2, fun z m3 H3 zv h3 k3 hM3 dz => ?_⟩
  cases z with
  | bl k =>
    cases k with
    | true =>
      refine ⟨true, by simpa only [DV] using dz, ?_⟩
      rw [if_pos rfl]
      refine ⟨e, m3, _, X0, hE.keep (k1.trans (k2.trans k3)), hM3, h3, fun w m4 H4 wv h4 k4 hM4 dw => ?_, hX.keep (k1.trans (k2.trans k3))⟩
      exact ⟨m4, d2, w, Q0, hM4, dv2.keep (k3.trans k4), dw, h4, hQ.keep (k1.trans (k2.trans (k3.trans k4)))⟩
    | false =>
      refine ⟨false, by simpa only [DV] using dz, ?_⟩
      rw [if_neg Bool.false_ne_true]
      exact hQ _ _ _ _ h3 (k1.trans (k2.trans k3)) hM3 (by simp only [DV])
  | _ => exact h3.elim
theorem ev_chain {op op' : CmpOp} {f g : F2} (ho : OpR X (compareOp op) (RV2 X.K f)) (ho' : OpR X (compareOp op') (RV2 X.K g)) (ha : PE X a (RE X.K W ra)) (hb : PE X b (RE X.K W rb)) (hc : PE X c (RE X.K W rc)) (hm : lastMarks [op, op'] [b, c] = false := by rfl) : PE X (.Compare a [op, op'] [b, c] pos) (RE X.K W (eChain f g ra rb rc)) :=
  PEimp (pe_chain ho ho' ha hb hc hm) fun _ _ _ h => chain2 h
theorem ev_tchain {op op' : CmpOp} {f g : F2} (ho : OpR X (compareOp op) (RV2 X.K f)) (ho' : OpR X (compareOp op') (RV2 X.K g)) (ha : PE X a (RE X.K W ra)) (hb : PE X b (RE X.K W rb)) (hc : PE X c (RE X.K W rc)) (hm : lastMarks [op, op'] [b, c] = false := by rfl) : PT X (.Compare a [op, op'] [b, c] pos) (RT X.K W (tOf (eChain f g ra rb rc))) :=
  PTimp (pt_chain ho ho' ha hb hc hm) fun σ H Q ⟨e, m, Q0, X0, hE, hM, h, hQ, hX⟩ => chain2 ⟨e, m, _, X0, hE, hM, h, fun d m' H' v h' k' hM' hd' => tof_end hQ k' hM' hd' h', hX⟩
end
end L2.EV
set_option maxHeartbeats 1000000
/-! EV3: operators by values. -/
namespace L2.EV
open PySem PySem.Spec PyProof.Rows

/-! ### plain data -/
mutual
def plain : D → Bool
  | .non => true
  | .bl _ => true
  | .int _ => true
  | .str x => PyData.canLay0 (.str x)
  | .tup xs => plains xs
  | .ct xs => plains xs
  | .lis xs => plains xs
  | _ => false
def plains : List D → Bool
  | [] => true
  | d :: ds => plain d && plains ds
end
mutual
def toPy : D → PyData
  | .non => .none
  | .bl b => .bool b
  | .int i => .int i
  | .str x => .str x
  | .tup xs => .tuple (toPys xs)
  | .ct xs => .tuple (toPys xs)
  | .lis xs => .list (toPys xs)
  | _ => .none
def toPys : List D → List PyData
  | [] => []
  | d :: ds => toPy d :: toPys ds
end
mutual
def dep : D → Nat
  | .tup xs => 1 + deps xs
  | .ct xs => 1 + deps xs
  | .lis xs => 1 + deps xs
  | _ => 0
def deps : List D → Nat
  | [] => 0
  | d :: ds => max (dep d) (deps ds)
end
mutual
def eqD : D → D → Bool
  | .non, .non => true
  | .bl a, .bl b => a == b
  | .bl a, .int j => (if a then 1 else 0) == j
  | .int i, .bl b => i == (if b then 1 else 0)
  | .int i, .int j => i == j
  | .str x, .str y => x == y
  | .lis xs, .lis ys => eqDs xs ys
  | .tup xs, .tup ys => eqDs xs ys
  | .tup xs, .ct ys => eqDs xs ys
  | .ct xs, .tup ys => eqDs xs ys
  | .ct xs, .ct ys => eqDs xs ys
  | _, _ => false
def eqDs : List D → List D → Bool
  | [], [] => true
  | x :: xs, y :: ys => eqD x y && eqDs xs ys
  | _, _ => false
end
mutual
theorem plain_lay : ∀ d : D, plain d = true → PyData.canLay0 (toPy d) = true
  | .non, _ => by simp only [toPy, PyData.canLay0]
  | .bl _, _ => by simp only [toPy, PyData.canLay0]
  | .int _, _ => by simp only [toPy, PyData.canLay0]
  | .str x, h => by simp only [plain] at h; simpa only [toPy] using h
  | .tup xs, h => by simp only [plain] at h; simp only [toPy, PyData.canLay0]; exact plains_lay xs h
  | .ct xs, h => by simp only [plain] at h; simp only [toPy, PyData.canLay0]; exact plains_lay xs h
  | .lis xs, h => by simp only [plain] at h; simp only [toPy, PyData.canLay0]; exact plains_lay xs h
  | .ty _, h => by simp only [plain] at h; cases h
  | .ref _, h => by simp only [plain] at h; cases h
  | .glob _, h => by simp only [plain] at h; cases h
theorem plains_lay : ∀ ds : List D, plains ds = true → PyData.canLayAll0 (toPys ds) = true
  | [], _ => by simp only [toPys, PyData.canLayAll0]
  | d :: ds, h => by
    simp only [plains, Bool.and_eq_true] at h
    simp only [toPys, PyData.canLayAll0, Bool.and_eq_true]
    exact ⟨plain_lay d h.1, plains_lay ds h.2⟩
end
mutual
theorem dep_py : ∀ d : D, (toPy d).depth = dep d
  | .non => by simp only [toPy, PyData.depth, dep]
  | .bl _ => by simp only [toPy, PyData.depth, dep]
  | .int _ => by simp only [toPy, PyData.depth, dep]
  | .str x => by simp only [toPy, PyData.depth, dep]
  | .tup xs => by simp only [toPy, PyData.depth, dep, deps_py xs, Nat.add_comm]
  | .ct xs => by simp only [toPy, PyData.depth, dep, deps_py xs, Nat.add_comm]
  | .lis xs => by simp only [toPy, PyData.depth, dep, deps_py xs, Nat.add_comm]
  | .ty _ => by simp only [toPy, PyData.depth, dep]
  | .ref _ => by simp only [toPy, PyData.depth, dep]
  | .glob _ => by simp only [toPy, PyData.depth, dep]
theorem deps_py : ∀ ds : List D, PyData.depthAll (toPys ds) = deps ds
  | [] => by simp only [toPys, PyData.depthAll, deps]
  | d :: ds => by simp only [toPys, PyData.depthAll, deps, dep_py d, deps_py ds]
end
mutual
theorem eqv_py : ∀ a b : D, plain a = true → plain b = true → PyData.eqv (toPy a) (toPy b) = eqD a b := fun a b ha hb => by
  cases a <;> cases b <;> first
    | (simp only [plain] at ha; cases ha; done)
    | (simp only [plain] at hb; cases hb; done)
    | (simp only [toPy, PyData.eqv, eqD]; done)
    | (simp only [plain] at ha hb; simp only [toPy, PyData.eqv, eqD]; exact eqvs_py _ _ ha hb)
theorem eqvs_py : ∀ a b : List D, plains a = true → plains b = true → PyData.eqvAll (toPys a) (toPys b) = eqDs a b
  | [], [], _, _ => by simp only [toPys, PyData.eqvAll, eqDs]
  | [], _ :: _, _, _ => by simp only [toPys, PyData.eqvAll, eqDs]
  | _ :: _, [], _, _ => by simp only [toPys, PyData.eqvAll, eqDs]
  | a :: as, b :: bs, ha, hb => by
    simp only [plains, Bool.and_eq_true] at ha hb
    simp only [toPys, PyData.eqvAll, eqDs, eqv_py a b ha.1 hb.1, eqvs_py as bs ha.2 hb.2]
end
mutual
theorem dp_of {K : PySem.W.Frag} {H : Hp} : ∀ {d : D} {v : V}, plain d = true → DV K H d v → Dp K H v (toPy d)
  | .non, _, _, h => by simp only [DV] at h; subst h; simp only [toPy]; exact .non
  | .bl b, _, _, h => by simp only [DV] at h; subst h; simp only [toPy]; exact .bl b
  | .int i, _, _, h => by simp only [DV] at h; subst h; simp only [toPy]; exact .int i
  | .str x, _, _, h => by simp only [DV] at h; subst h; simp only [toPy]; exact .str x
  | .tup xs, _, p, h => by
    simp only [DV] at h; simp only [plain] at p; simp only [toPy]
    obtain ⟨a, vs, rfl, h1, h2⟩ := h
    exact .tup (SqT.of h1) (dps_of p h2)
  | .ct xs, _, p, h => by
    simp only [DV] at h; simp only [plain] at p; simp only [toPy]
    obtain ⟨a, vs, rfl, h1, h2⟩ := h
    exact .tup h1.seq (dps_of p h2)
  | .lis xs, _, p, h => by
    simp only [DV] at h; simp only [plain] at p; simp only [toPy]
    obtain ⟨a, vs, rfl, h1, h2⟩ := h
    exact .lst h1.seq (dps_of p h2)
  | .ty _, _, p, _ => by simp only [plain] at p; cases p
  | .ref _, _, p, _ => by simp only [plain] at p; cases p
  | .glob _, _, p, _ => by simp only [plain] at p; cases p
theorem dps_of {K : PySem.W.Frag} {H : Hp} : ∀ {ds : List D} {vs : List V}, plains ds = true → DVs K H ds vs → DpAll K H vs (toPys ds)
  | [], _, _, h => by rw [h.un0]; simp only [toPys]; exact .nil
  | d :: ds, _, p, h => by
    obtain ⟨v, r, rfl, h1, h2⟩ := h.un
    simp only [plains, Bool.and_eq_true] at p
    simp only [toPys]
    exact .cons (dp_of p.1 h1) (dps_of p.2 h2)
end
theorem shaped_of {d : D} (h : plain d = true) (h2 : dep d ≤ 60) : SeqAt.shaped (toPy d) = true := by
  show ((toPy d).canLay0 && decide ((toPy d).depth ≤ 64)) = true
  rw [plain_lay d h, dep_py, Bool.true_and]
  exact decide_eq_true (by omega)
/-- a list that can change, looked at as it is now -/
def norm (m : Mem) : D → D
  | .ref a => match m a with
    | some (.lst xs) => .lis xs
    | _ => .ref a
  | d => d
theorem dp_norm {K : PySem.W.Frag} {H : Hp} {m : Mem} (hM : MemOk K m H) {d : D} {v : V} (p : plain (norm m d) = true) (h : DV K H d v) : Dp K H v (toPy (norm m d)) := by
  cases d with
  | ref a =>
    simp only [norm] at p ⊢
    cases e : m a with
    | none => rw [e] at p; simp only [plain] at p; cases p
    | some o =>
      rw [e] at p
      cases o with
      | lst xs =>
        obtain ⟨vs, h1, h2⟩ := hM a _ e
        simp only [DV] at h; subst h
        simp only [plain] at p
        simp only [toPy]
        exact .lst (SqL.of h1) (dps_of p h2)
      | _ => simp only [plain] at p; cases p
  | _ => exact dp_of p h
/-- data that can be compared -/
def cmpOk (d : D) : Prop := plain d = true ∧ dep d ≤ 60
def dEq : F2 := fun x y m Q => cmpOk (norm m x) ∧ cmpOk (norm m y) ∧ Q (.bl (eqD (norm m x) (norm m y))) m
def dNe : F2 := fun x y m Q => cmpOk (norm m x) ∧ cmpOk (norm m y) ∧ Q (.bl (!eqD (norm m x) (norm m y))) m
section
variable {X : Cx} {W : WX}
theorem o_eq (hu : X.A.units + 64 < cLine) : OpR X (compareOp .Eq) (RV2 X.K dEq) := fun pins s σ H x y v u Q I rx ry ⟨m, d1, d2, Q0, hM, h1, h2, ⟨p1, p2, h⟩, hQ⟩ =>
  op_eqD hu pins s σ H x y v u Q I rx ry ⟨_, _, dp_norm hM p1.1 h1, dp_norm hM p2.1 h2, shaped_of p1.1 p1.2, shaped_of p2.1 p2.2, by
    rw [eqv_py _ _ p1.1 p2.1]; exact hQ _ m H _ h (Keep.refl H) hM (by simp only [DV])⟩
theorem o_ne (hu : X.A.units + 64 < cLine) : OpR X (compareOp .NotEq) (RV2 X.K dNe) := fun pins s σ H x y v u Q I rx ry ⟨m, d1, d2, Q0, hM, h1, h2, ⟨p1, p2, h⟩, hQ⟩ =>
  op_neD hu pins s σ H x y v u Q I rx ry ⟨_, _, dp_norm hM p1.1 h1, dp_norm hM p2.1 h2, shaped_of p1.1 p1.2, shaped_of p2.1 p2.2, by
    rw [eqv_py _ _ p1.1 p2.1]; exact hQ _ m H _ h (Keep.refl H) hM (by simp only [DV])⟩
/-- is None -/
def isN : D → Bool
  | .non => true
  | _ => false
def dIs : F2 := fun x y m Q => match y with
  | .non => Q (.bl (isN x)) m
  | _ => False
def dIsNot : F2 := fun x y m Q => match y with
  | .non => Q (.bl (!isN x)) m
  | _ => False
theorem isN_dv {K : PySem.W.Frag} {H : Hp} {d : D} {v : V} (h : DV K H d v) : decide (v = .non) = isN d := by
  cases d with
  | non => simp only [DV] at h; subst h; rfl
  | tup xs => simp only [DV] at h; obtain ⟨a, vs, rfl, _⟩ := h; rfl
  | ct xs => simp only [DV] at h; obtain ⟨a, vs, rfl, _⟩ := h; rfl
  | lis xs => simp only [DV] at h; obtain ⟨a, vs, rfl, _⟩ := h; rfl
  | _ => simp only [DV] at h; subst h; rfl
theorem o_is : OpR X (compareOp .Is) (RV2 X.K dIs) := fun pins s σ H x y v u Q I rx ry ⟨m, d1, d2, Q0, hM, h1, h2, h, hQ⟩ => by
  cases d2 with
  | non =>
    simp only [DV] at h2; subst h2
    exact op_isN pins s σ H x _ v u Q I rx ry ⟨rfl, by rw [isN_dv h1]; exact hQ _ m H _ h (Keep.refl H) hM (by simp only [DV])⟩
  | _ => exact h.elim
theorem o_isnot : OpR X (compareOp .IsNot) (RV2 X.K dIsNot) := fun pins s σ H x y v u Q I rx ry ⟨m, d1, d2, Q0, hM, h1, h2, h, hQ⟩ => by
  cases d2 with
  | non =>
    simp only [DV] at h2; subst h2
    exact op_notN pins s σ H x _ v u Q I rx ry ⟨rfl, by rw [isN_dv h1]; exact hQ _ m H _ h (Keep.refl H) hM (by simp only [DV])⟩
  | _ => exact h.elim

/-! ### order -/
def sLt (x y : Str) : Bool := decide (x.cps.toList < y.cps.toList)
def dLt : F2 := fun x y m Q => match x, y with
  | .int i, .int j => Q (.bl (decide (i < j))) m
  | .str i, .str j => Q (.bl (decide (i.cps.toList < j.cps.toList))) m
  | _, _ => False
def dLe : F2 := fun x y m Q => match x, y with
  | .int i, .int j => Q (.bl (decide (i ≤ j))) m
  | .str i, .str j => Q (.bl (!decide (j.cps.toList < i.cps.toList))) m
  | _, _ => False
def dGt : F2 := fun x y m Q => match x, y with
  | .int i, .int j => Q (.bl (decide (j < i))) m
  | _, _ => False
def dGe : F2 := fun x y m Q => match x, y with
  | .int i, .int j => Q (.bl (decide (j ≤ i))) m
  | _, _ => False
theorem o_lt : OpR X (compareOp .Lt) (RV2 X.K dLt) := fun pins s σ H x y v u Q I rx ry ⟨m, d1, d2, Q0, hM, h1, h2, h, hQ⟩ => by
  cases d1 <;> cases d2 <;> first
    | exact h.elim
    | (simp only [DV] at h1 h2; subst h1 h2
       first
         | exact op_lt pins s σ H _ _ v u Q I rx ry ⟨_, _, rfl, rfl, hQ _ m H _ h (Keep.refl H) hM (by simp only [DV])⟩
         | exact op_lt_str pins s σ H _ _ v u Q I rx ry ⟨_, _, rfl, rfl, hQ _ m H _ h (Keep.refl H) hM (by simp only [DV])⟩)
theorem o_le : OpR X (compareOp .LtE) (RV2 X.K dLe) := fun pins s σ H x y v u Q I rx ry ⟨m, d1, d2, Q0, hM, h1, h2, h, hQ⟩ => by
  cases d1 <;> cases d2 <;> first
    | exact h.elim
    | (simp only [DV] at h1 h2; subst h1 h2
       first
         | exact op_le pins s σ H _ _ v u Q I rx ry ⟨_, _, rfl, rfl, hQ _ m H _ h (Keep.refl H) hM (by simp only [DV])⟩
         | exact op_le_str pins s σ H _ _ v u Q I rx ry ⟨_, _, rfl, rfl, hQ _ m H _ h (Keep.refl H) hM (by simp only [DV])⟩)
theorem o_gt : OpR X (compareOp .Gt) (RV2 X.K dGt) := fun pins s σ H x y v u Q I rx ry ⟨m, d1, d2, Q0, hM, h1, h2, h, hQ⟩ => by
  cases d1 <;> cases d2 <;> first
    | exact h.elim
    | (simp only [DV] at h1 h2; subst h1 h2
       exact op_gt pins s σ H _ _ v u Q I rx ry ⟨_, _, rfl, rfl, hQ _ m H _ h (Keep.refl H) hM (by simp only [DV])⟩)
theorem o_ge : OpR X (compareOp .GtE) (RV2 X.K dGe) := fun pins s σ H x y v u Q I rx ry ⟨m, d1, d2, Q0, hM, h1, h2, h, hQ⟩ => by
  cases d1 <;> cases d2 <;> first
    | exact h.elim
    | (simp only [DV] at h1 h2; subst h1 h2
       exact op_ge pins s σ H _ _ v u Q I rx ry ⟨_, _, rfl, rfl, hQ _ m H _ h (Keep.refl H) hM (by simp only [DV])⟩)
end
end L2.EV
set_option maxHeartbeats 1000000
/-! EV4: arithmetic, sequences, dicts, displays, fields. -/
namespace L2.EV
open PySem PySem.Spec PyProof.Rows

def dRef (m : Mem) (o : MO) (Q : QD) : Prop := ∀ p, m p = none → Q (.ref p) (mup m p o)
section
variable {X : Cx} {W : WX}
/-- a value that is no object of the heap -/
theorem fin0 {K : PySem.W.Frag} {H : Hp} {m : Mem} {Q0 : QD} {Q : VK} {d : D} {v : V} (hQ : CQ K H Q0 Q) (hM : MemOk K m H) (h : Q0 d m) (hd : DV K H d v) : Q v H := hQ d m H v h (Keep.refl H) hM hd
/-- a new list -/
theorem finL {K : PySem.W.Frag} {H : Hp} {m : Mem} {Q0 : QD} {Q : VK} {xs : List D} {vs : List V} (hQ : CQ K H Q0 Q) (hM : MemOk K m H) (h : dRef m (.lst xs) Q0) (hd : DVs K H xs vs) (p : Addr) (hp : H p = none) : Q (.ref p) (upd H p (.lst vs)) := by
  have k : Keep K H (upd H p (.lst vs)) := keep_upd (by rw [hp]; trivial)
  exact hQ _ _ _ _ (h p (hM.none hp)) k (hM.upd (by rw [hp]; trivial) ⟨vs, upd_same, hd.keep k⟩) (by simp only [DV])
/-- a new tuple -/
theorem finT {K : PySem.W.Frag} {H : Hp} {m : Mem} {Q0 : QD} {Q : VK} {xs : List D} {vs : List V} (hQ : CQ K H Q0 Q) (hM : MemOk K m H) (h : Q0 (.tup xs) m) (hd : DVs K H xs vs) (p : Addr) (hp : H p = none) : Q (.ref p) (upd H p (.tup vs)) := by
  have k : Keep K H (upd H p (.tup vs)) := keep_upd (by rw [hp]; trivial)
  exact hQ _ _ _ _ h k (hM.new hp) (by simp only [DV]; exact ⟨p, vs, rfl, upd_same, hd.keep k⟩)
/-- what may be read as a tuple -/
def tupOf : D → Option (List D)
  | .tup xs => some xs
  | .ct xs => some xs
  | _ => none
theorem tupOf_dv {K : PySem.W.Frag} {H : Hp} {d : D} {v : V} {xs : List D} (h : DV K H d v) (e : tupOf d = some xs) : ∃ a vs, v = .ref a ∧ SqT K H a vs ∧ DVs K H xs vs := by
  cases d with
  | tup ys =>
    cases e
    simp only [DV] at h
    obtain ⟨a, vs, e, h1, h2⟩ := h
    exact ⟨a, vs, e, SqT.of h1, h2⟩
  | ct ys =>
    cases e
    simp only [DV] at h
    obtain ⟨a, vs, e, h1, h2⟩ := h
    exact ⟨a, vs, e, h1.seq, h2⟩
  | _ => cases e
/-- what may be read as a list -/
def lisOf (m : Mem) : D → Option (List D)
  | .lis xs => some xs
  | .ref a => match m a with
    | some (.lst xs) => some xs
    | _ => none
  | _ => none
theorem lisOf_dv {K : PySem.W.Frag} {H : Hp} {m : Mem} (hM : MemOk K m H) {d : D} {v : V} {xs : List D} (h : DV K H d v) (e : lisOf m d = some xs) : ∃ a vs, v = .ref a ∧ SqL K H a vs ∧ DVs K H xs vs := by
  cases d with
  | lis ys =>
    cases e
    simp only [DV] at h
    obtain ⟨a, vs, e, h1, h2⟩ := h
    exact ⟨a, vs, e, h1.seq, h2⟩
  | ref a =>
    simp only [lisOf] at e
    cases q : m a with
    | none => rw [q] at e; cases e
    | some o =>
      rw [q] at e
      cases o with
      | lst ys =>
        cases e
        obtain ⟨vs, h1, h2⟩ := hM a _ q
        simp only [DV] at h
        exact ⟨a, vs, h, SqL.of h1, h2⟩
      | _ => cases e
  | _ => cases e
@[simp] theorem lisOf_ref {m : Mem} {a : Addr} {xs : List D} (h : m a = some (.lst xs)) : lisOf m (.ref a) = some xs := by simp only [lisOf, h]

/-! ### arithmetic, + -/
def mulOk (i j : Int) : Prop := CMul i j ∨ CMulW i j
def dAdd : F2 := fun x y m Q => match x, y with
  | .int i, .int j => Q (.int (i + j)) m
  | .str i, .str j => i.length + j.length ≤ sizeLine ∧ Q (.str (i ++ j)) m
  | .tup i, .tup j => i.length + j.length ≤ sizeLine ∧ Q (.tup (i ++ j)) m
  | .ref a, .ref b => match m a, m b with
    | some (.lst i), some (.lst j) => i.length + j.length ≤ sizeLine ∧ dRef m (.lst (i ++ j)) Q
    | _, _ => False
  | _, _ => False
theorem o_add : OpR X (binaryOp .Add) (RV2 X.K dAdd) := fun pins s σ H x y v u Q I rx ry ⟨m, d1, d2, Q0, hM, h1, h2, h, hQ⟩ => by
  cases d1 with
  | int i =>
    cases d2 with
    | int j =>
      simp only [DV] at h1 h2; subst h1 h2
      exact op_add pins s σ H _ _ v u Q I rx ry ⟨_, _, rfl, rfl, fin0 hQ hM h (by simp only [DV])⟩
    | _ => exact h.elim
  | str i =>
    cases d2 with
    | str j =>
      simp only [DV] at h1 h2; subst h1 h2
      exact op_add_str pins s σ H _ _ v u Q I rx ry ⟨_, _, rfl, rfl, h.1, fin0 hQ hM h.2 (by simp only [DV])⟩
    | _ => exact h.elim
  | tup i =>
    cases d2 with
    | tup j =>
      have h1' := h1
      have h2' := h2
      simp only [DV] at h1 h2
      obtain ⟨a, vs, rfl, ha, hva⟩ := h1
      obtain ⟨b, ws, rfl, hb, hvb⟩ := h2
      obtain ⟨hl, h⟩ := h
      refine op_catA pins s σ H _ _ v u Q I rx ry ⟨a, b, vs, ws, rfl, rfl, SqT.of ha, SqT.of hb, by rw [hva.length, hvb.length]; exact hl, fun e => ?_, fun e1 e2 => ?_, fun e1 e2 p hp => ?_⟩
      · subst e
        have : i = [] := by cases i with | nil => rfl | cons _ _ => obtain ⟨_, _, e, _⟩ := hva.un; cases e
        subst this
        exact fin0 hQ hM h (by simpa using h2')
      · subst e2
        have : j = [] := by cases j with | nil => rfl | cons _ _ => obtain ⟨_, _, e, _⟩ := hvb.un; cases e
        subst this
        exact fin0 hQ hM h (by simpa using h1')
      · exact finT hQ hM h (hva.append hvb) p hp
    | _ => exact h.elim
  | ref a =>
    cases d2 with
    | ref b =>
      simp only [DV] at h1 h2; subst h1 h2
      simp only [dAdd] at h
      split at h
      · rename_i i j e1 e2
        obtain ⟨vs, ha, hva⟩ := hM a _ e1
        obtain ⟨ws, hb, hvb⟩ := hM b _ e2
        exact op_cat pins s σ H _ _ v u Q I rx ry ⟨a, b, vs, ws, rfl, rfl, ha, hb, by rw [hva.length, hvb.length]; exact h.1, fun p hp => finL hQ hM h.2 (hva.append hvb) p hp⟩
      · exact h.elim
    | _ => exact h.elim
  | _ => exact h.elim
def dSub : F2 := fun x y m Q => match x, y with
  | .int i, .int j => Q (.int (i - j)) m
  | _, _ => False
theorem o_sub : OpR X (binaryOp .Sub) (RV2 X.K dSub) := fun pins s σ H x y v u Q I rx ry ⟨m, d1, d2, Q0, hM, h1, h2, h, hQ⟩ => by
  cases d1 <;> cases d2 <;> first
    | exact h.elim
    | (simp only [DV] at h1 h2; subst h1 h2
       exact op_sub pins s σ H _ _ v u Q I rx ry ⟨_, _, rfl, rfl, fin0 hQ hM h (by simp only [DV])⟩)
def dMod : F2 := fun x y m Q => match x, y with
  | .int i, .int j => 0 < j ∧ Q (.int (i % j)) m
  | _, _ => False
theorem o_mod : OpR X (binaryOp .Mod) (RV2 X.K dMod) := fun pins s σ H x y v u Q I rx ry ⟨m, d1, d2, Q0, hM, h1, h2, h, hQ⟩ => by
  cases d1 <;> cases d2 <;> first
    | exact h.elim
    | (simp only [DV] at h1 h2; subst h1 h2
       exact op_mod pins s σ H _ _ v u Q I rx ry ⟨_, _, rfl, rfl, h.1, fin0 hQ hM h.2 (by simp only [DV])⟩)
def dFdiv : F2 := fun x y m Q => match x, y with
  | .int i, .int j => CDivW i j ∧ Q (.int (i / j)) m
  | _, _ => False
theorem o_fdiv : OpR X (binaryOp .FloorDiv) (RV2 X.K dFdiv) := fun pins s σ H x y v u Q I rx ry ⟨m, d1, d2, Q0, hM, h1, h2, h, hQ⟩ => by
  cases d1 <;> cases d2 <;> first
    | exact h.elim
    | (simp only [DV] at h1 h2; subst h1 h2
       exact op_fdivW pins s σ H _ _ v u Q I rx ry ⟨_, _, rfl, rfl, h.1, fin0 hQ hM h.2 (by simp only [DV])⟩)
def dPow : F2 := fun x y m Q => match x, y with
  | .int i, .int j => CPow i j ∧ Q (.int (i ^ j.toNat)) m
  | _, _ => False
theorem o_pow : OpR X (binaryOp .Pow) (RV2 X.K dPow) := fun pins s σ H x y v u Q I rx ry ⟨m, d1, d2, Q0, hM, h1, h2, h, hQ⟩ => by
  cases d1 <;> cases d2 <;> first
    | exact h.elim
    | (simp only [DV] at h1 h2; subst h1 h2
       exact op_pow pins s σ H _ _ v u Q I rx ry ⟨_, _, rfl, rfl, h.1, fin0 hQ hM h.2 (by simp only [DV])⟩)
def dShr : F2 := fun x y m Q => match x, y with
  | .int i, .int j => 0 ≤ j ∧ Q (.int (i / 2 ^ j.toNat)) m
  | _, _ => False
theorem o_shr : OpR X (binaryOp .RShift) (RV2 X.K dShr) := fun pins s σ H x y v u Q I rx ry ⟨m, d1, d2, Q0, hM, h1, h2, h, hQ⟩ => by
  cases d1 <;> cases d2 <;> first
    | exact h.elim
    | (simp only [DV] at h1 h2; subst h1 h2
       exact op_shr pins s σ H _ _ v u Q I rx ry ⟨_, _, rfl, rfl, h.1, fin0 hQ hM h.2 (by simp only [DV])⟩)
def dShl : F2 := fun x y m Q => match x, y with
  | .int i, .int j => CShl i j ∧ Q (.int (i * 2 ^ j.toNat)) m
  | _, _ => False
theorem o_shl : OpR X (binaryOp .LShift) (RV2 X.K dShl) := fun pins s σ H x y v u Q I rx ry ⟨m, d1, d2, Q0, hM, h1, h2, h, hQ⟩ => by
  cases d1 <;> cases d2 <;> first
    | exact h.elim
    | (simp only [DV] at h1 h2; subst h1 h2
       exact op_shlW pins s σ H _ _ v u Q I rx ry ⟨_, _, rfl, rfl, h.1, fin0 hQ hM h.2 (by simp only [DV])⟩)
def dMul : F2 := fun x y m Q => match x, y with
  | .int i, .int j => mulOk i j ∧ Q (.int (i * j)) m
  | .str i, .int j => MulOk i j ∧ Q (.str (Txt.mul i j)) m
  | .ref a, .int j => match m a with
    | some (.lst xs) => (-(2 ^ 63) ≤ j ∧ j < 2 ^ 63 ∧ xs.length * j.toNat ≤ sizeLine) ∧ dRef m (.lst (List.replicate j.toNat xs).flatten) Q
    | _ => False
  | _, _ => False
theorem op_mul_str : OpR X (binaryOp .Mult) (fun x y H Q => ∃ i j, x = .str i ∧ y = .int j ∧ MulOk i j ∧ Q (.str (Txt.mul i j)) H) := by
  intro pins s σ H x y v u Q I rx ry h
  obtain ⟨i, j, rfl, rfl, ho, q⟩ := h
  obtain ⟨t, rfl⟩ := rx
  obtain ⟨t', rfl⟩ := ry
  exact SB.mul ho fun t' k => ⟨.str _, H, I.tok _, ⟨_, rfl⟩, q⟩
theorem o_mul : OpR X (binaryOp .Mult) (RV2 X.K dMul) := fun pins s σ H x y v u Q I rx ry ⟨m, d1, d2, Q0, hM, h1, h2, h, hQ⟩ => by
  cases d1 with
  | int i =>
    cases d2 with
    | int j =>
      simp only [DV] at h1 h2; subst h1 h2
      rcases h.1 with c | c
      · exact op_mul pins s σ H _ _ v u Q I rx ry ⟨_, _, rfl, rfl, c, fin0 hQ hM h.2 (by simp only [DV])⟩
      · exact op_mulW pins s σ H _ _ v u Q I rx ry ⟨_, _, rfl, rfl, c, fin0 hQ hM h.2 (by simp only [DV])⟩
    | _ => exact h.elim
  | str i =>
    cases d2 with
    | int j =>
      simp only [DV] at h1 h2; subst h1 h2
      exact op_mul_str pins s σ H _ _ v u Q I rx ry ⟨_, _, rfl, rfl, h.1, fin0 hQ hM h.2 (by simp only [DV])⟩
    | _ => exact h.elim
  | ref a =>
    cases d2 with
    | int j =>
      simp only [DV] at h1 h2; subst h1 h2
      simp only [dMul] at h
      split at h
      · rename_i xs e1
        obtain ⟨vs, ha, hva⟩ := hM a _ e1
        exact op_rep pins s σ H _ _ v u Q I rx ry ⟨a, j, vs, rfl, rfl, ha, h.1.1, h.1.2.1, by rw [hva.length]; exact h.1.2.2, fun p hp => finL hQ hM h.2 (hva.rep _) p hp⟩
      · exact h.elim
    | _ => exact h.elim
  | _ => exact h.elim
def dNeg : F1 := fun x m Q => match x with
  | .int i => Q (.int (-i)) m
  | _ => False
theorem ev_neg {a : Expr} {ra : EE} {pos : Pos} (ha : PE X a (RE X.K W ra)) : PE X (.UnaryOp .USub a pos) (RE X.K W (eUn dNeg ra)) := PEimp (pe_un un_neg ha) fun σ H Q ⟨e, m, Q0, X0, hE, hM, h, hQ, hX⟩ =>
  ⟨e, m, _, X0, hE, hM, h, fun d m1 H1 v h1 k1 hM1 dv1 => by
    cases d <;> first
      | exact h1.elim
      | (simp only [DV] at dv1; subst dv1
         exact ⟨_, rfl, fin0 (hQ.keep k1) hM1 h1 (by simp only [DV])⟩), hX⟩

/-! ### an item by its place -/
theorem atI_dv {K : PySem.W.Frag} {H : Hp} {ds : List D} {vs : List V} {i : Int} {d : D} (h : DVs K H ds vs) (e : atI ds i = some d) : ∃ v, atI vs i = some v ∧ DV K H d v := by
  unfold atI at e ⊢
  rw [h.length]
  cases q : ixN ds.length i with
  | none => rw [q] at e; cases e
  | some j =>
    rw [q] at e
    exact h.get e
def someQ (o : Option D) (m : Mem) (Q : QD) : Prop := match o with
  | some d => Q d m
  | none => False
@[simp] theorem someQ_some {d : D} {m : Mem} {Q : QD} : someQ (some d) m Q = Q d m := rfl
/-- the tables of the module: a name's keys and values -/
abbrev TB := Str → List (Str × D)
def tabGet (T : TB) (x z : Str) : Option D := (T x).lookup z
def keyOf : D → Option Key
  | .int i => some (.inl i)
  | .str x => some (.inr x)
  | _ => none
def keysOf : D → Option (List Key)
  | .tup xs => xs.mapM keyOf
  | _ => none
def valK {κ : Type} [DecidableEq κ] (kvs : List (κ × D)) (k : κ) : Option D := (kvs.find? fun p => decide (p.1 = k)).map (·.2)
def intQ (y : D) (f : Int → Prop) : Prop := match y with
  | .int i => f i
  | _ => False
@[simp] theorem intQ_int {i : Int} {f : Int → Prop} : intQ (.int i) f = f i := rfl
def strQ (y : D) (f : Str → Prop) : Prop := match y with
  | .str i => f i
  | _ => False
@[simp] theorem strQ_str {i : Str} {f : Str → Prop} : strQ (.str i) f = f i := rfl
theorem intQ_un {K : PySem.W.Frag} {H : Hp} {d : D} {v : V} {f : Int → Prop} (h : DV K H d v) (q : intQ d f) : ∃ i, d = .int i ∧ v = .int i ∧ f i := by
  cases d with
  | int i => exact ⟨i, rfl, by simpa only [DV] using h, q⟩
  | _ => exact q.elim
theorem strQ_un {K : PySem.W.Frag} {H : Hp} {d : D} {v : V} {f : Str → Prop} (h : DV K H d v) (q : strQ d f) : ∃ i, d = .str i ∧ v = .str i ∧ f i := by
  cases d with
  | str i => exact ⟨i, rfl, by simpa only [DV] using h, q⟩
  | _ => exact q.elim
def signQ (o : Option Nat) (m : Mem) (Q : QD) : Prop := match o with
  | some c => Q (.str ⟨#[c]⟩) m
  | none => False
@[simp] theorem signQ_some {c : Nat} {m : Mem} {Q : QD} : signQ (some c) m Q = Q (.str ⟨#[c]⟩) m := rfl
def dIx (T : TB) : F2 := fun x y m Q => match x with
  | .tup xs => intQ y fun i => someQ (atI xs i) m Q
  | .ct xs => intQ y fun i => someQ (atI xs i) m Q
  | .lis xs => intQ y fun i => someQ (atI xs i) m Q
  | .str z => z.length ≤ sizeLine ∧ intQ y fun i => signQ (atI z.cps.toList i) m Q
  | .glob x => strQ y fun z => someQ (tabGet T x z) m Q
  | .ref a => (match m a with
    | some (.lst xs) => intQ y fun i => someQ (atI xs i) m Q
    | some (.dK kvs) => someQ ((keyOf y).bind (valK kvs)) m Q
    | some (.dT kvs) => someQ ((keysOf y).bind (valK kvs)) m Q
    | _ => False)
  | _ => False
end
end L2.EV
set_option maxHeartbeats 1000000
/-! EV5: subscripts, in, dicts. -/
namespace L2.EV
open PySem PySem.Spec PyProof.Rows

def TabOk (X : Cx) (T : TB) : Prop := ∀ x, T x ≠ [] → ∃ es n, KDict X.K X.w (He.ga X.K x) es n ∧ ∀ z : Str, ∃ r, PySem.W.nsIn X.K (He.ga X.K x) z = some r ∧ (match (T x).lookup z, r with
  | some d, some u => ∃ v, RelV v u ∧ ∀ H, DV X.K H d v
  | none, none => True
  | _, _ => False)
section
variable {X : Cx} {W : WX}
/-! ### keys -/
theorem keyOf_dv {K : PySem.W.Frag} {H : Hp} {d : D} {v : V} {k : Key} (h : DV K H d v) (e : keyOf d = some k) : v = kV k := by
  cases d with
  | int i => cases e; simp only [DV] at h; exact h
  | str x => cases e; simp only [DV] at h; exact h
  | _ => cases e
theorem keys_dv {K : PySem.W.Frag} {H : Hp} : ∀ {ds : List D} {vs : List V} {ks : List Key}, DVs K H ds vs → ds.mapM keyOf = some ks → vs = ks.map kV
  | [], vs, ks, h, e => by
    have e' : ks = [] := by simpa using e.symm
    rw [h.un0, e']; rfl
  | d :: ds, vs, ks, h, e => by
    obtain ⟨v, r, rfl, h1, h2⟩ := h.un
    rw [List.mapM_cons] at e
    cases q : keyOf d with
    | none => rw [q] at e; cases e
    | some k =>
      cases q2 : ds.mapM keyOf with
      | none => rw [q, q2] at e; cases e
      | some ks' =>
        rw [q, q2] at e
        have e' : k :: ks' = ks := by simpa using e
        rw [← e', List.map_cons, keyOf_dv h1 q, keys_dv h2 q2]
theorem valK_rel {κ : Type} [DecidableEq κ] {K : PySem.W.Frag} {H : Hp} (k : κ) : ∀ {kvs : List (κ × D)} {vs : List (κ × V)}, KD K H kvs vs → match valK kvs k with
    | some d => ∃ v, valV vs k = some v ∧ DV K H d v
    | none => valV vs k = none
  | [], vs, h => by
    have e : vs = [] := h
    subst e
    rfl
  | p :: ps, vs, h => by
    obtain ⟨v, r, rfl, h1, h2⟩ := h
    by_cases e : p.1 = k
    · have q : valK (p :: ps) k = some p.2 := by simp [valK, List.find?_cons, e]
      rw [q]
      exact ⟨v, valV_pos (p := (p.1, v)) e, h1⟩
    · have q : valK (p :: ps) k = valK ps k := by simp [valK, List.find?_cons, e]
      rw [q, valV_neg (p := (p.1, v)) e]
      exact valK_rel k h2
/-- what a dict has at a key -/
def hasV (K : PySem.W.Frag) (H : Hp) (o : Option D) (ov : Option V) : Prop := match o with
  | some d => ∃ w', ov = some w' ∧ DV K H d w'
  | none => ov = none
theorem valK_has {κ : Type} [DecidableEq κ] {K : PySem.W.Frag} {H : Hp} (k : κ) {kvs : List (κ × D)} {vs : List (κ × V)} (h : KD K H kvs vs) : hasV K H (valK kvs k) (valV vs k) := by
  have r := valK_rel k h
  cases q : valK kvs k with
  | some d => rw [q] at r; exact r
  | none => rw [q] at r; exact r
theorem getK {K : PySem.W.Frag} {H : Hp} {m : Mem} (hM : MemOk K m H) {a : Addr} {y : D} {v : V} {kvs : List (Key × D)} {k : Key} (e : m a = some (.dK kvs)) (h : DV K H y v) (q : keyOf y = some k) : ∃ ov, DGet H a v ov ∧ hasV K H (valK kvs k) ov := by
  obtain ⟨vs, h1, h2⟩ := hM a _ e
  have hv := keyOf_dv h q
  subst hv
  exact ⟨_, DGet.k h1, valK_has k h2⟩
theorem getT {K : PySem.W.Frag} {H : Hp} {m : Mem} (hM : MemOk K m H) {a : Addr} {y : D} {v : V} {kvs : List (List Key × D)} {k : List Key} (e : m a = some (.dT kvs)) (h : DV K H y v) (q : keysOf y = some k) : ∃ ov, DGet H a v ov ∧ hasV K H (valK kvs k) ov := by
  obtain ⟨vs, h1, h2⟩ := hM a _ e
  cases y with
  | tup ds =>
    simp only [DV] at h
    obtain ⟨b, ws, rfl, hb, hd⟩ := h
    have hv := keys_dv hd q
    subst hv
    exact ⟨_, DGet.t h1 hb, valK_has k h2⟩
  | _ => cases q

/-! ### a[b] -/
theorem ix_of {T id : String} {value slice : Expr} {s : Shared} {v u : Value} {Q : Value → Shared → Prop} (hl : typeLookup (.type T) "__getitem__" = pure (some (.builtin id))) (hT : s.TypeIs v T)
    (hs : subscripted slice false v u = operate [v, u] (getItem v u)) (h : wpAny (model X.prog X.w) X.A (getItem v u) Q X.xe s) : wpAny (model X.prog X.w) X.A (subscriptTail value slice v u) Q X.xe s := by
  unfold subscriptTail
  refine wpAny_bind ?_
  rw [getitemInPython_of_ne hT.not_modules]
  refine wpAny_bind (wpAny_specialOf hT hl ?_)
  have fin : wpAny (model X.prog X.w) X.A (subscripted slice false v u) (fun r s₃ => wpAny (model X.prog X.w) X.A (letTemporaryGo value v r >>= fun _ => pure r) Q X.xe s₃) X.xe s := by
    rw [hs]
    exact wpAny_operating (wpAny_mono h (fun r s₃ h₃ => wpAny_bind (wpAny_letTemporaryGo (wpAny_pure h₃))) fun _ _ x => x)
  first
    | exact wpAny_pure (wpAny_bind fin)
    | exact wpAny_bind (wpAny_pure (wpAny_bind fin))
    | exact wpAny_bind fin
theorem ix_dict (hu : X.A.units + 1 < cLine) : IxR X (fun x y H Q => ∃ a v, x = .ref a ∧ DGet H a y (some v) ∧ Q v H) := by
  intro value slice pins s σ H x y v u Q I rx ry h hs
  obtain ⟨a, w', rfl, g, q⟩ := h
  cases rx
  exact ix_of PySem.F.slot_dict_getitem.lookup (dict_typeIs I g) hs (d_getItem hu I g ry fun w2 s3 I3 rw' => ⟨w', H, I3, rw', q⟩)
theorem ix_kd {d : Addr} {es : Array DictEntry} {n : Nat} (D' : KDict X.K X.w d es n) : IxR X (fun x y H Q => ∃ (z : Str) (u0 : Value) (v0 : V), x = .ref d ∧ y = .str z ∧ PySem.W.nsIn X.K d z = some (some u0) ∧ RelV v0 u0 ∧ Q v0 H) := by
  intro value slice pins s σ H x y v u Q I rx ry h hs
  obtain ⟨z, u0, v0, rfl, rfl, e, r, q⟩ := h
  have e1 : v = Value.ref d := rx
  subst e1
  exact ix_of PySem.F.slot_dict_getitem.lookup (kd_type D' I) hs (op_item_kd D' pins s σ H (.ref d) (.str z) _ _ Q I rfl ry ⟨z, u0, v0, rfl, rfl, e, r, q⟩)
theorem x_ix {T : TB} (hT : TabOk X T) (hu : X.A.units + 1 < cLine) : IxR X (RV2 X.K (dIx T)) := fun value slice pins s σ H x y v u Q I rx ry ⟨m, d1, d2, Q0, hM, h1, h2, h, hQ⟩ hs => by
  have seqT : ∀ {xs : List D}, tupOf d1 = some xs → (intQ d2 fun i => someQ (atI xs i) m Q0) → wpAny (model X.prog X.w) X.A (subscriptTail value slice v u) (EP X pins σ Q) X.xe s := fun {xs} e h => by
    obtain ⟨a, vs, rfl, ha, hv⟩ := tupOf_dv h1 e
    obtain ⟨i, rfl, rfl, h⟩ := intQ_un h2 h
    cases q : atI xs i with
    | none => rw [q] at h; exact h.elim
    | some d =>
      rw [q] at h
      obtain ⟨w', e2, hw⟩ := atI_dv hv q
      exact ix_tup value slice pins s σ H _ _ v u Q I rx ry ⟨a, vs, i, w', rfl, rfl, ha, e2, fin0 hQ hM h hw⟩ hs
  have seqL : ∀ {xs : List D}, lisOf m d1 = some xs → (intQ d2 fun i => someQ (atI xs i) m Q0) → wpAny (model X.prog X.w) X.A (subscriptTail value slice v u) (EP X pins σ Q) X.xe s := fun {xs} e h => by
    obtain ⟨a, vs, rfl, ha, hv⟩ := lisOf_dv hM h1 e
    obtain ⟨i, rfl, rfl, h⟩ := intQ_un h2 h
    cases q : atI xs i with
    | none => rw [q] at h; exact h.elim
    | some d =>
      rw [q] at h
      obtain ⟨w', e2, hw⟩ := atI_dv hv q
      exact ix_list value slice pins s σ H _ _ v u Q I rx ry ⟨a, vs, i, w', rfl, rfl, ha, e2, fin0 hQ hM h hw⟩ hs
  cases d1 with
  | tup xs => exact seqT rfl h
  | ct xs => exact seqT rfl h
  | lis xs => exact seqL rfl h
  | str z =>
    obtain ⟨hz, h⟩ := h
    obtain ⟨i, rfl, rfl, h⟩ := intQ_un h2 h
    simp only [DV] at h1; subst h1
    cases q : atI z.cps.toList i with
    | none => rw [q] at h; exact h.elim
    | some c =>
      rw [q] at h
      exact ix_str value slice pins s σ H _ _ v u Q I rx ry ⟨z, i, c, rfl, rfl, hz, q, fin0 hQ hM h (by simp only [DV])⟩ hs
  | glob t =>
    obtain ⟨z, rfl, rfl, h⟩ := strQ_un h2 h
    simp only [DV] at h1; subst h1
    simp only [tabGet] at h
    cases q : (T t).lookup z with
    | none => rw [q] at h; exact h.elim
    | some d =>
      rw [q] at h
      obtain ⟨es, n, kd, hz⟩ := hT t (fun e => by rw [e] at q; cases q)
      obtain ⟨r, e1, hr⟩ := hz z
      rw [q] at hr
      cases r with
      | none => exact hr.elim
      | some u0 =>
        obtain ⟨v0, r1, r2⟩ := hr
        exact ix_kd kd value slice pins s σ H _ _ v u Q I rx ry ⟨z, u0, v0, rfl, rfl, e1, r1, fin0 hQ hM h (r2 H)⟩ hs
  | ref a =>
    simp only [dIx] at h
    have h1' := h1
    simp only [DV] at h1; subst h1
    cases e : m a with
    | none => rw [e] at h; exact h.elim
    | some o =>
      rw [e] at h
      cases o with
      | lst xs => exact seqL (by simp only [lisOf, e]) h
      | dK kvs =>
        cases q : keyOf d2 with
        | none => simp only [q] at h; exact h.elim
        | some k =>
          simp only [q, Option.bind_some] at h
          obtain ⟨ov, g, hr⟩ := getK hM e h2 q
          cases q2 : valK kvs k with
          | none => rw [q2] at h; exact h.elim
          | some d =>
            rw [q2] at h hr
            obtain ⟨w', rfl, hw⟩ := hr
            exact ix_dict hu value slice pins s σ H _ _ v u Q I rx ry ⟨a, w', rfl, g, fin0 hQ hM h hw⟩ hs
      | dT kvs =>
        cases q : keysOf d2 with
        | none => simp only [q] at h; exact h.elim
        | some k =>
          simp only [q, Option.bind_some] at h
          obtain ⟨ov, g, hr⟩ := getT hM e h2 q
          cases q2 : valK kvs k with
          | none => rw [q2] at h; exact h.elim
          | some d =>
            rw [q2] at h hr
            obtain ⟨w', rfl, hw⟩ := hr
            exact ix_dict hu value slice pins s σ H _ _ v u Q I rx ry ⟨a, w', rfl, g, fin0 hQ hM h hw⟩ hs
      | _ => exact h.elim
  | _ => exact h.elim
theorem ev_ix {T : TB} {a b : Expr} {ra rb : EE} {pos : Pos} (hT : TabOk X T) (hu : X.A.units + 1 < cLine) (ha : PE X a (RE X.K W ra)) (hb : PE X b (RE X.K W rb)) (hs : PlainIx b := by exact fun _ _ => rfl) : PE X (.Subscript a b pos) (RE X.K W (eBin (dIx T) ra rb)) :=
  PEimp (pe_ix (x_ix hT hu) ha hb hs) fun _ _ _ h => op2 h

/-! ### in -/
def inOk (x : D) (xs : List D) : Prop := (plain x = true ∧ dep x ≤ 60) ∧ plains xs = true ∧ deps xs ≤ 59
def inD (x : D) (xs : List D) : Bool := xs.any fun z => eqD z x
def oneQ (x : Str) (f : Nat → Prop) : Prop := match x.cps.toList with
  | [n] => f n
  | _ => False
@[simp] theorem oneQ_one {n : Nat} {f : Nat → Prop} : oneQ ⟨#[n]⟩ f = f n := rfl
def isSomeQ (o : Option (Option D)) (Q : Bool → Prop) : Prop := match o with
  | some r => Q r.isSome
  | none => False
@[simp] theorem isSomeQ_some {o : Option D} {Q : Bool → Prop} : isSomeQ (some o) Q = Q o.isSome := rfl
def dInB (T : TB) (x y : D) (m : Mem) (Q : Bool → Prop) : Prop := match y with
  | .tup xs => inOk x xs ∧ Q (inD x xs)
  | .ct xs => inOk x xs ∧ Q (inD x xs)
  | .lis xs => inOk x xs ∧ Q (inD x xs)
  | .str z => strQ x fun c => oneQ c fun n => Q (decide (n ∈ z.cps.toList))
  | .glob t => T t ≠ [] ∧ strQ x fun z => Q (tabGet T t z).isSome
  | .ref a => (match m a with
    | some (.lst xs) => inOk x xs ∧ Q (inD x xs)
    | some (.dK kvs) => isSomeQ ((keyOf x).map (valK kvs)) Q
    | some (.dT kvs) => isSomeQ ((keysOf x).map (valK kvs)) Q
    | _ => False)
  | _ => False
def dIn (T : TB) : F2 := fun x y m Q => dInB T x y m fun b => Q (.bl b) m
def dNotIn (T : TB) : F2 := fun x y m Q => dInB T x y m fun b => Q (.bl (!b)) m
theorem any_py {x : D} (hx : plain x = true) : ∀ {xs : List D}, plains xs = true → ((toPys xs).any fun z => PyData.eqv z (toPy x)) = inD x xs
  | [], _ => by simp only [toPys]; rfl
  | d :: ds, h => by
    simp only [plains, Bool.and_eq_true] at h
    have ih := any_py hx h.2
    simp only [toPys, List.any_cons]
    rw [eqv_py d x h.1 hx, ih]
    rfl
def InBoth (X : Cx) (pins : List (Addr × Obj)) (σ : St) (H : Hp) (v u : Value) (s : Shared) (b : Bool) : Prop := ∀ Q : Value → Shared → Prop,
  ((∀ s', Inv X pins σ H s' → Q (.bool b) s') → wpAny (model X.prog X.w) X.A (compareOp .In v u) Q X.xe s) ∧ ((∀ s', Inv X pins σ H s' → Q (.bool (!b)) s') → wpAny (model X.prog X.w) X.A (compareOp .NotIn v u) Q X.xe s)
theorem inB_tup (hu : X.A.units + 66 < cLine) {pins : List (Addr × Obj)} {s : Shared} {σ : St} {H : Hp} {x : V} {a : Addr} {vs : List V} {v u : Value} (I : Inv X pins σ H s) (rx : RelV x v) (ry : RelV (.ref a) u) {d1 : D} {xs : List D}
    (h1 : DV X.K H d1 x) (ha : SqT X.K H a vs) (hv : DVs X.K H xs vs) (p : inOk d1 xs) : InBoth X pins σ H v u s (inD d1 xs) := fun Q => by
  obtain ⟨p1, p2⟩ := p
  obtain ⟨as, r1⟩ := Dp.reads I _ x v (dp_of p1.1 h1) rx
  obtain ⟨bs, r2⟩ := Dp.reads I (.tuple (toPys xs)) _ u (.tup ha (dps_of p2.1 hv)) ry
  have c1 := plains_lay xs p2.1
  have c2 := plain_lay d1 p1.1
  have c3 : X.A.units + 1 + min (PyData.depthAll (toPys xs)) (toPy d1).depth < cLine := by rw [deps_py, dep_py]; have := p2.2; have := p1.2; omega
  exact ⟨fun k => SeqAt.in_tuple_reads r2 r1 c1 c2 c3 (by rw [any_py p1.1 p2.1]; exact k s I), fun k => SeqAt.notIn_tuple_reads r2 r1 c1 c2 c3 (by rw [any_py p1.1 p2.1]; exact k s I)⟩
theorem inB_lst (hu : X.A.units + 66 < cLine) {pins : List (Addr × Obj)} {s : Shared} {σ : St} {H : Hp} {x : V} {a : Addr} {vs : List V} {v u : Value} (I : Inv X pins σ H s) (rx : RelV x v) (ry : RelV (.ref a) u) {d1 : D} {xs : List D}
    (h1 : DV X.K H d1 x) (ha : SqL X.K H a vs) (hv : DVs X.K H xs vs) (p : inOk d1 xs) : InBoth X pins σ H v u s (inD d1 xs) := fun Q => by
  obtain ⟨p1, p2⟩ := p
  obtain ⟨as, r1⟩ := Dp.reads I _ x v (dp_of p1.1 h1) rx
  obtain ⟨bs, r2⟩ := Dp.reads I (.list (toPys xs)) _ u (.lst ha (dps_of p2.1 hv)) ry
  have c1 := plains_lay xs p2.1
  have c2 := plain_lay d1 p1.1
  have c3 : X.A.units + 1 + min (PyData.depthAll (toPys xs)) (toPy d1).depth < cLine := by rw [deps_py, dep_py]; have := p2.2; have := p1.2; omega
  exact ⟨fun k => SeqAt.in_list_reads r2 r1 c1 c2 c3 (by rw [any_py p1.1 p2.1]; exact k s I), fun k => SeqAt.notIn_list_reads r2 r1 c1 c2 c3 (by rw [any_py p1.1 p2.1]; exact k s I)⟩
theorem inB_kd {es : Array DictEntry} {n : Nat} {d : Addr} {z : Str} {r : Option Value} (kd : KDict X.K X.w d es n) (e : PySem.W.nsIn X.K d z = some r) {pins : List (Addr × Obj)} {s : Shared} {σ : St} {H : Hp} {v u : Value} (I : Inv X pins σ H s) (rx : RelV (.str z) v) (ry : RelV (.ref d) u) :
    InBoth X pins σ H v u s r.isSome := fun Q => by
  obtain ⟨t, rfl⟩ := rx
  have e1 : u = Value.ref d := ry
  subst e1
  refine ⟨fun k => wpAny_in_of (PySem.strKind_is X.prog X.w z t) kd.low (PySem.W.mapOf_K (prog := X.prog) I.kIn kd.at_ kd.lit) ?_, fun k => wpAny_notIn_of (PySem.strKind_is X.prog X.w z t) kd.low (PySem.W.mapOf_K (prog := X.prog) I.kIn kd.at_ kd.lit) ?_⟩
  · rw [PySem.W.find_K kd.at_ e]; exact k _ (I.tok _)
  · rw [PySem.W.find_K kd.at_ e]; exact k _ (I.tok _)
theorem inB_dict (hu : X.A.units + 66 < cLine) {pins : List (Addr × Obj)} {s : Shared} {σ : St} {H : Hp} {x : V} {a : Addr} {v u : Value} (I : Inv X pins σ H s) (rx : RelV x v) (ry : RelV (.ref a) u) {ov : Option V} {o : Option D} (g : DGet H a x ov) (hr : hasV X.K H o ov) :
    InBoth X pins σ H v u s o.isSome := fun Q => by
  have e1 : u = Value.ref a := ry
  subst e1
  have eo : ov.isSome = o.isSome := by
    cases o with
    | some d => obtain ⟨w', rfl, _⟩ := hr; rfl
    | none => rw [show ov = none from hr]; rfl
  exact ⟨fun k => d_in (by omega) I g rx fun s' I' => by rw [eo]; exact k s' I', fun k => d_notIn (by omega) I g rx fun s' I' => by rw [eo]; exact k s' I'⟩
theorem in_core {T : TB} (hT : TabOk X T) (hu : X.A.units + 66 < cLine) {pins : List (Addr × Obj)} {s : Shared} {σ : St} {H : Hp} {x y : V} {v u : Value} (I : Inv X pins σ H s) (rx : RelV x v) (ry : RelV y u) {m : Mem} {d1 d2 : D} {P : Bool → Prop}
    (hM : MemOk X.K m H) (h1 : DV X.K H d1 x) (h2 : DV X.K H d2 y) (h : dInB T d1 d2 m P) : ∃ b, P b ∧ InBoth X pins σ H v u s b := by
  cases d2 with
  | tup xs =>
    obtain ⟨a, vs, rfl, ha, hv⟩ := tupOf_dv (xs := xs) h2 rfl
    exact ⟨_, h.2, inB_tup hu I rx ry h1 ha hv h.1⟩
  | ct xs =>
    obtain ⟨a, vs, rfl, ha, hv⟩ := tupOf_dv (xs := xs) h2 rfl
    exact ⟨_, h.2, inB_tup hu I rx ry h1 ha hv h.1⟩
  | lis xs =>
    obtain ⟨a, vs, rfl, ha, hv⟩ := lisOf_dv (xs := xs) hM h2 rfl
    exact ⟨_, h.2, inB_lst hu I rx ry h1 ha hv h.1⟩
  | str z =>
    obtain ⟨c, rfl, rfl, h⟩ := strQ_un h1 h
    simp only [DV] at h2; subst h2
    obtain ⟨cs⟩ := c
    unfold oneQ at h
    split at h
    · rename_i n e
      have ec : cs = #[n] := by
        have e' : cs.toList = [n] := e
        rw [← Array.toArray_toList (xs := cs), e']
      subst ec
      obtain ⟨t, rfl⟩ := rx
      obtain ⟨t', rfl⟩ := ry
      exact ⟨_, h, fun Q => ⟨fun k => PyProof.Rows.in_str (by rw [PySem.StrLaws.found_one z n]; exact k s I), fun k => PyProof.Rows.notIn_str (by rw [PySem.StrLaws.found_one z n]; exact k s I)⟩⟩
    · exact h.elim
  | glob t =>
    obtain ⟨ht, h⟩ := h
    obtain ⟨z, rfl, rfl, h⟩ := strQ_un h1 h
    simp only [DV] at h2; subst h2
    obtain ⟨es, n, kd, hz⟩ := hT t ht
    obtain ⟨r, e1, hr⟩ := hz z
    have er : r.isSome = (tabGet T t z).isSome := by
      unfold tabGet
      cases q : (T t).lookup z <;> cases r <;> rw [q] at hr <;> first | rfl | exact hr.elim
    rw [← er] at h
    exact ⟨_, h, inB_kd kd e1 I rx ry⟩
  | ref a =>
    simp only [dInB] at h
    have h2' := h2
    simp only [DV] at h2; subst h2
    cases e : m a with
    | none => rw [e] at h; exact h.elim
    | some o =>
      rw [e] at h
      cases o with
      | lst xs =>
        obtain ⟨vs, ha, hv⟩ := hM a _ e
        exact ⟨_, h.2, inB_lst hu I rx ry h1 (SqL.of ha) hv h.1⟩
      | dK kvs =>
        cases q : keyOf d1 with
        | none => simp only [q] at h; exact h.elim
        | some k =>
          simp only [q, Option.map_some] at h
          obtain ⟨ov, g, hr⟩ := getK hM e h1 q
          exact ⟨_, h, inB_dict hu I rx ry g hr⟩
      | dT kvs =>
        cases q : keysOf d1 with
        | none => simp only [q] at h; exact h.elim
        | some k =>
          simp only [q, Option.map_some] at h
          obtain ⟨ov, g, hr⟩ := getT hM e h1 q
          exact ⟨_, h, inB_dict hu I rx ry g hr⟩
      | _ => exact h.elim
  | _ => exact h.elim
theorem o_in {T : TB} (hT : TabOk X T) (hu : X.A.units + 66 < cLine) : OpR X (compareOp .In) (RV2 X.K (dIn T)) := fun pins s σ H x y v u Q I rx ry ⟨m, d1, d2, Q0, hM, h1, h2, h, hQ⟩ => by
  obtain ⟨b, hb, ib⟩ := in_core hT hu I rx ry hM h1 h2 h
  exact (ib _).1 fun s' I' => ⟨.bl b, H, I', rfl, fin0 hQ hM hb (by simp only [DV])⟩
theorem o_notin {T : TB} (hT : TabOk X T) (hu : X.A.units + 66 < cLine) : OpR X (compareOp .NotIn) (RV2 X.K (dNotIn T)) := fun pins s σ H x y v u Q I rx ry ⟨m, d1, d2, Q0, hM, h1, h2, h, hQ⟩ => by
  obtain ⟨b, hb, ib⟩ := in_core hT hu I rx ry hM h1 h2 h
  exact (ib _).2 fun s' I' => ⟨.bl (!b), H, I', rfl, fin0 hQ hM hb (by simp only [DV])⟩
end
end L2.EV
set_option maxHeartbeats 1000000
/-! EV6: and, or, not, if; truth; arguments, displays; fields; slices; calls of built-ins. -/
namespace L2.EV
open PySem PySem.Spec PyProof.Rows
section
variable {X : Cx} {W : WX} {pos : Pos} {a b c : Expr} {ra rb rc : EE} {ta tb : ET} {rest : List Expr}
/-! ### and, or, not, if -/
def eAnd (a b : EE) : EE := fun e m Q X => a e m (fun d m1 => match d with
  | .bl true => b e m1 Q X
  | .bl false => Q (.bl false) m1
  | _ => False) X
def eOr (a b : EE) : EE := fun e m Q X => a e m (fun d m1 => match d with
  | .bl true => Q (.bl true) m1
  | .bl false => b e m1 Q X
  | _ => False) X
def eNot (a : EE) : EE := fun e m Q X => a e m (bK fun k m1 => Q (.bl (!k)) m1) X
def eIf (t : ET) (a b : EE) : EE := fun e m Q X => t e m (fun k m1 => (k = true → a e m1 Q X) ∧ (k = false → b e m1 Q X)) X
def tAnd (t u : ET) : ET := fun e m Q X => t e m (fun k m1 => (k = true → u e m1 Q X) ∧ (k = false → Q false m1)) X
def tOr (t u : ET) : ET := fun e m Q X => t e m (fun k m1 => (k = true → Q true m1) ∧ (k = false → u e m1 Q X)) X
def tNot (t : ET) : ET := fun e m Q X => t e m (fun k m1 => Q (!k) m1) X
theorem ev_one {op} {r : EE} (h : PE X a (RE X.K W r)) : PE X (.BoolOp op [a] pos) (RE X.K W r) := pe_one h
theorem ev_and (ha : PE X a (RE X.K W ra)) (hb : PE X (.BoolOp .And (b :: rest) pos) (RE X.K W rb)) : PE X (.BoolOp .And (a :: b :: rest) pos) (RE X.K W (eAnd ra rb)) := PEimp (pe_and ha hb) fun σ H Q ⟨e, m, Q0, X0, hE, hM, h, hQ, hX⟩ =>
  ⟨e, m, _, X0, hE, hM, h, fun d m1 H1 v h1 k1 hM1 dv1 => by
    cases d with
    | bl k =>
      cases k with
      | true => exact ⟨true, by simpa only [DV] using dv1, by rw [if_pos rfl]; exact ⟨e, m1, Q0, X0, hE.keep k1, hM1, h1, hQ.keep k1, hX.keep k1⟩⟩
      | false => exact ⟨false, by simpa only [DV] using dv1, by rw [if_neg Bool.false_ne_true]; exact fin0 (hQ.keep k1) hM1 h1 (by simp only [DV])⟩
    | _ => exact h1.elim, hX⟩
theorem ev_or (ha : PE X a (RE X.K W ra)) (hb : PE X (.BoolOp .Or (b :: rest) pos) (RE X.K W rb)) : PE X (.BoolOp .Or (a :: b :: rest) pos) (RE X.K W (eOr ra rb)) := PEimp (pe_or ha hb) fun σ H Q ⟨e, m, Q0, X0, hE, hM, h, hQ, hX⟩ =>
  ⟨e, m, _, X0, hE, hM, h, fun d m1 H1 v h1 k1 hM1 dv1 => by
    cases d with
    | bl k =>
      cases k with
      | true => exact ⟨true, by simpa only [DV] using dv1, by rw [if_pos rfl]; exact fin0 (hQ.keep k1) hM1 h1 (by simp only [DV])⟩
      | false => exact ⟨false, by simpa only [DV] using dv1, by rw [if_neg Bool.false_ne_true]; exact ⟨e, m1, Q0, X0, hE.keep k1, hM1, h1, hQ.keep k1, hX.keep k1⟩⟩
    | _ => exact h1.elim, hX⟩
theorem ev_not (ha : PE X a (RE X.K W ra)) : PE X (.UnaryOp .Not a pos) (RE X.K W (eNot ra)) := PEimp (pe_not ha) fun σ H Q ⟨e, m, Q0, X0, hE, hM, h, hQ, hX⟩ =>
  ⟨e, m, _, X0, hE, hM, h, fun d m1 H1 v h1 k1 hM1 dv1 => tof_end (Q := fun k H' => Q (.bl (!k)) H') (H := H1) (fun k m' H' hk k' hM' => hQ _ m' H' _ hk (k1.trans k') hM' (by simp only [DV])) (Keep.refl _) hM1 dv1 h1, hX⟩
theorem if2 {K : PySem.W.Frag} {k : Bool} {P1 P2 R1 R2 : Prop} (h : (k = true → P1) ∧ (k = false → P2)) (h1 : P1 → R1) (h2 : P2 → R2) : if k = true then R1 else R2 := by
  cases k with
  | true => rw [if_pos rfl]; exact h1 (h.1 rfl)
  | false => rw [if_neg Bool.false_ne_true]; exact h2 (h.2 rfl)
theorem ev_if (hc : PT X c (RT X.K W ta)) (ha : PE X a (RE X.K W ra)) (hb : PE X b (RE X.K W rb)) : PE X (.IfExp c a b pos) (RE X.K W (eIf ta ra rb)) := PEimp (pe_ifExp hc ha hb) fun σ H Q ⟨e, m, Q0, X0, hE, hM, h, hQ, hX⟩ =>
  ⟨e, m, _, X0, hE, hM, h, fun k m1 H1 h1 k1 hM1 => if2 (K := X.K) h1 (fun h1 => ⟨e, m1, Q0, X0, hE.keep k1, hM1, h1, hQ.keep k1, hX.keep k1⟩) (fun h1 => ⟨e, m1, Q0, X0, hE.keep k1, hM1, h1, hQ.keep k1, hX.keep k1⟩), hX⟩
theorem tv_and1 (ha : PT X a (RT X.K W ta)) : PW X (.BoolOp .And [a] pos) (RT X.K W ta) := pw_and1 ha
theorem tv_or1 (ha : PT X a (RT X.K W ta)) : PW X (.BoolOp .Or [a] pos) (RT X.K W ta) := pw_or1 ha
theorem tv_and (ha : PT X a (RT X.K W ta)) (hb : PW X (.BoolOp .And (b :: rest) pos) (RT X.K W tb)) : PW X (.BoolOp .And (a :: b :: rest) pos) (RT X.K W (tAnd ta tb)) := PWimp (pw_and ha hb) fun σ H Q ⟨e, m, Q0, X0, hE, hM, h, hQ, hX⟩ =>
  ⟨e, m, _, X0, hE, hM, h, fun k m1 H1 h1 k1 hM1 => if2 (K := X.K) h1 (fun h1 => ⟨e, m1, Q0, X0, hE.keep k1, hM1, h1, hQ.keep k1, hX.keep k1⟩) (fun h1 => hQ _ _ _ h1 k1 hM1), hX⟩
theorem tv_or (ha : PT X a (RT X.K W ta)) (hb : PW X (.BoolOp .Or (b :: rest) pos) (RT X.K W tb)) : PW X (.BoolOp .Or (a :: b :: rest) pos) (RT X.K W (tOr ta tb)) := PWimp (pw_or ha hb) fun σ H Q ⟨e, m, Q0, X0, hE, hM, h, hQ, hX⟩ =>
  ⟨e, m, _, X0, hE, hM, h, fun k m1 H1 h1 k1 hM1 => if2 (K := X.K) h1 (fun h1 => hQ _ _ _ h1 k1 hM1) (fun h1 => ⟨e, m1, Q0, X0, hE.keep k1, hM1, h1, hQ.keep k1, hX.keep k1⟩), hX⟩
theorem tv_not (ha : PT X a (RT X.K W ta)) : PT X (.UnaryOp .Not a pos) (RT X.K W (tNot ta)) := PTimp (pt_not ha) fun σ H Q ⟨e, m, Q0, X0, hE, hM, h, hQ, hX⟩ =>
  ⟨e, m, _, X0, hE, hM, h, fun k m1 H1 h1 k1 hM1 => hQ _ _ _ h1 k1 hM1, hX⟩
/-! ### truth -/
def truK (Q : Bool → Mem → Prop) (d : D) (m : Mem) : Prop := match d with
  | .bl k => Q k m
  | .non => Q false m
  | .int i => Q (i != 0) m
  | .str z => z.length ≤ sizeLine ∧ Q ((z.length : Int) != 0) m
  | .tup xs => Q (!xs.isEmpty) m
  | .ct xs => Q (!xs.isEmpty) m
  | .lis xs => Q (!xs.isEmpty) m
  | .ref a => (match m a with
    | some (.lst xs) => Q (!xs.isEmpty) m
    | some (.dK kvs) => Q (!kvs.isEmpty) m
    | _ => False)
  | _ => False
@[simp] theorem truK_bl {Q : Bool → Mem → Prop} {k : Bool} {m : Mem} : truK Q (.bl k) m = Q k m := rfl
def tTru (r : EE) : ET := fun e m Q X => r e m (truK Q) X
theorem isE {K : PySem.W.Frag} {H : Hp} {xs : List D} {vs : List V} (h : DVs K H xs vs) : (!vs.isEmpty) = !xs.isEmpty := by
  cases xs with
  | nil => rw [h.un0]; rfl
  | cons x xs => obtain ⟨v, r, rfl, _⟩ := h.un; rfl
theorem isEK {κ : Type} {K : PySem.W.Frag} {H : Hp} {xs : List (κ × D)} {vs : List (κ × V)} (h : KD K H xs vs) : (!vs.isEmpty) = !xs.isEmpty := by
  cases xs with
  | nil => rw [show vs = [] from h]; rfl
  | cons x xs => obtain ⟨v, r, rfl, _⟩ := h; rfl
theorem tru_end {Q0 : Bool → Mem → Prop} {Q : Bool → Hp → Prop} {H : Hp} {d : D} {m : Mem} {v : V} (hQ : CB X.K H Q0 Q) (hM : MemOk X.K m H) (hd : DV X.K H d v) (h : truK Q0 d m) :
    (∃ k, TruV X.K v H k ∧ Q k H) := by
  have go : ∀ k, Q0 k m → Q k H := fun k q => hQ k m H q (Keep.refl H) hM
  cases d with
  | non => simp only [DV] at hd; subst hd; exact ⟨false, rfl, go _ h⟩
  | bl k => simp only [DV] at hd; subst hd; exact ⟨k, rfl, go _ h⟩
  | int i => simp only [DV] at hd; subst hd; exact ⟨_, rfl, go _ h⟩
  | str z => simp only [DV] at hd; subst hd; exact ⟨_, ⟨h.1, rfl⟩, go _ h.2⟩
  | tup xs =>
    obtain ⟨a, vs, rfl, ha, hv⟩ := tupOf_dv (xs := xs) hd rfl
    exact ⟨_, .inr (.inl ⟨vs, ha, rfl⟩), by rw [isE hv]; exact go _ h⟩
  | ct xs =>
    obtain ⟨a, vs, rfl, ha, hv⟩ := tupOf_dv (xs := xs) hd rfl
    exact ⟨_, .inr (.inl ⟨vs, ha, rfl⟩), by rw [isE hv]; exact go _ h⟩
  | lis xs =>
    obtain ⟨a, vs, rfl, ha, hv⟩ := lisOf_dv (xs := xs) hM hd rfl
    exact ⟨_, .inl ⟨vs, ha, rfl⟩, by rw [isE hv]; exact go _ h⟩
  | ref a =>
    simp only [truK] at h
    simp only [DV] at hd; subst hd
    cases e : m a with
    | none => rw [e] at h; exact h.elim
    | some o =>
      rw [e] at h
      cases o with
      | lst xs =>
        obtain ⟨vs, ha, hv⟩ := hM a _ e
        exact ⟨_, .inl ⟨vs, SqL.of ha, rfl⟩, by rw [isE hv]; exact go _ h⟩
      | dK xs =>
        obtain ⟨vs, ha, hv⟩ := hM a _ e
        exact ⟨_, .inr (.inr ⟨vs, ha, rfl⟩), by rw [isEK hv]; exact go _ h⟩
      | _ => exact h.elim
  | _ => exact h.elim
theorem tv_tru (ha : PE X a (RE X.K W ra)) (he : ∀ whole, isTrue a X.env whole = (do let v ← whole; standAt a.pos; holding [v] (truthy v)) := by exact fun _ => rfl) : PT X a (RT X.K W (tTru ra)) :=
  PTimp (pt_truth ha he) fun σ H Q ⟨e, m, Q0, X0, hE, hM, h, hQ, hX⟩ => ⟨e, m, _, X0, hE, hM, h, fun d m1 H1 v h1 k1 hM1 dv1 => tru_end (hQ.keep k1) hM1 dv1 h1, hX⟩

/-! ### arguments, displays -/
def aNil : EA := fun _ m Q _ => Q [] m
def aCons (r : EE) (as : EA) : EA := fun e m Q X => r e m (fun d m1 => as e m1 (fun ds m2 => Q (d :: ds) m2) X) X
theorem av_nil : PA X [] (RA X.K W aNil) := PAimp pa_nil fun σ H Q ⟨e, m, Q0, X0, hE, hM, h, hQ, _⟩ => hQ [] m H [] h (Keep.refl H) hM .nil
theorem av_cons {e : Expr} {es : List Expr} {r : EE} {as : EA} (ha : PE X e (RE X.K W r)) (hr : PA X es (RA X.K W as)) (hs : starEach (e :: es) X.env = (false, eval e X.env) :: starEach es X.env := by rfl) : PA X (e :: es) (RA X.K W (aCons r as)) :=
  PAimp (pa_cons ha hr hs) fun σ H Q ⟨e, m, Q0, X0, hE, hM, h, hQ, hX⟩ => ⟨e, m, _, X0, hE, hM, h, fun d m1 H1 v h1 k1 hM1 dv1 =>
    ⟨e, m1, _, X0, hE.keep k1, hM1, h1, fun ds m2 H2 vs h2 k2 hM2 dv2 => hQ (d :: ds) m2 H2 (v :: vs) h2 (k1.trans k2) hM2 (.cons (dv1.keep k2) dv2), hX.keep k1⟩, hX⟩
def eTup (as : EA) : EE := fun e m Q X => as e m (fun ds m1 => ds.length ≤ sizeLine ∧ Q (.tup ds) m1) X
def eLst (as : EA) : EE := fun e m Q X => as e m (fun ds m1 => ds.length ≤ sizeLine ∧ dRef m1 (.lst ds) Q) X
theorem ev_tup {es : List Expr} {x1} {as : EA} (h : PA X es (RA X.K W as)) : PE X (.Tuple es x1 pos) (RE X.K W (eTup as)) := PEimp (pe_tup h) fun σ H Q ⟨e, m, Q0, X0, hE, hM, h, hQ, hX⟩ =>
  ⟨e, m, _, X0, hE, hM, h, fun ds m1 H1 vs h1 k1 hM1 dv1 => ⟨by rw [dv1.length]; exact h1.1, fun p hp => finT (hQ.keep k1) hM1 h1.2 dv1 p hp⟩, hX⟩
theorem ev_lst {es : List Expr} {as : EA} (h : PA X es (RA X.K W as)) : PE X (.List es pos) (RE X.K W (eLst as)) := PEimp (pe_lst h) fun σ H Q ⟨e, m, Q0, X0, hE, hM, h, hQ, hX⟩ =>
  ⟨e, m, _, X0, hE, hM, h, fun ds m1 H1 vs h1 k1 hM1 dv1 => ⟨by rw [dv1.length]; exact h1.1, fun p hp => finL (hQ.keep k1) hM1 h1.2 dv1 p hp⟩, hX⟩
/-- { } -/
def eNewK : EE := fun _ m Q _ => dRef m (.dK []) Q
def eNewT : EE := fun _ m Q _ => dRef m (.dT []) Q
theorem finM {K : PySem.W.Frag} {H : Hp} {m : Mem} {Q0 : QD} {Q : VK} {o : MO} {ho : HO} (hQ : CQ K H Q0 Q) (hM : MemOk K m H) (h : dRef m o Q0) (p : Addr) (hp : H p = none) (n : ∀ H', Keep K H H' → H' p = some ho → MOk K H' p o) : Q (.ref p) (upd H p ho) := by
  have k : Keep K H (upd H p ho) := keep_upd (by rw [hp]; trivial)
  exact hQ _ _ _ _ (h p (hM.none hp)) k (hM.upd (by rw [hp]; trivial) (n _ k upd_same)) (by simp only [DV])
theorem ev_newK : PE X (.Dict [] [] pos) (RE X.K W eNewK) := PEimp pe_dnewK fun σ H Q ⟨e, m, Q0, X0, hE, hM, h, hQ, hX⟩ p hp => finM hQ hM h p hp fun H' k e => ⟨[], e, rfl⟩
theorem ev_newT : PE X (.Dict [] [] pos) (RE X.K W eNewT) := PEimp pe_dnewT fun σ H Q ⟨e, m, Q0, X0, hE, hM, h, hQ, hX⟩ p hp => finM hQ hM h p hp fun H' k e => ⟨[], e, rfl⟩

/-! ### fields -/
abbrev FTab := Str → List Str
def FldOk (X : Cx) (F : FTab) : Prop := ∀ C f, f ∈ F C → Cls X.K (He.ga X.K C) ∧ NoAttr X.K (He.ga X.K C) f
theorem lookup_KD {K : PySem.W.Frag} {H : Hp} (f : Str) : ∀ {fs : List (Str × D)} {vs : List (Str × V)} {d : D}, KD K H fs vs → fs.lookup f = some d → ∃ v, vs.lookup f = some v ∧ DV K H d v
  | [], _, _, _, e => by cases e
  | p :: ps, _, d, ⟨v, r, e1, h1, h2⟩, e => by
    subst e1
    obtain ⟨g, x⟩ := p
    rw [List.lookup_cons] at e ⊢
    cases q : f == g with
    | true =>
      rw [q] at e
      cases e
      exact ⟨v, rfl, h1⟩
    | false =>
      rw [q] at e
      exact lookup_KD f h2 e
def eFld (F : FTab) (f : Str) (a : EE) : EE := fun e m Q X => a e m (fun d m1 => match d with
  | .ref p => (match m1 p with
    | some (.ins C fs) => f ∈ F C ∧ someQ (fs.lookup f) m1 Q
    | _ => False)
  | _ => False) X
theorem ev_fld {F : FTab} {f : Str} (hF : FldOk X F) (ha : PE X a (RE X.K W ra)) (hb : attributeBase a f X.env (eval a X.env) = eval a X.env := by rfl) : PE X (.Attribute a f pos) (RE X.K W (eFld F f ra)) :=
  PEimp (pe_fld ha hb) fun σ H Q ⟨e, m, Q0, X0, hE, hM, h, hQ, hX⟩ => ⟨e, m, _, X0, hE, hM, h, fun d m1 H1 v h1 k1 hM1 dv1 => by
    cases d with
    | ref p =>
      simp only at h1
      simp only [DV] at dv1; subst dv1
      cases q : m1 p with
      | none => rw [q] at h1; exact h1.elim
      | some o =>
        rw [q] at h1
        cases o with
        | ins C fs =>
          obtain ⟨hf, h1⟩ := h1
          obtain ⟨dx, vs, h2, h3⟩ := hM1 p _ q
          cases q2 : fs.lookup f with
          | none => rw [q2] at h1; exact h1.elim
          | some d =>
            rw [q2] at h1
            obtain ⟨w', l, dw⟩ := lookup_KD f h3 q2
            exact ⟨p, _, dx, vs, w', rfl, h2, (hF C f hf).1, (hF C f hf).2, l, fin0 (hQ.keep k1) hM1 h1 dw⟩
        | _ => exact h1.elim
    | _ => exact h1.elim, hX⟩

/-! ### slices -/
abbrev EO := Sl → Mem → (Option Int → Mem → Prop) → XD → Prop
def oNone : EO := fun _ m Q _ => Q none m
def oSome (a : EE) : EO := fun e m Q X => a e m (fun d m1 => intQ d fun i => Q (some i) m1) X
def cutD (xs : List D) (lo hi : Option Int) : List D := (xs.drop (HT.sIx xs.length 0 lo)).take (HT.sIx xs.length xs.length hi - HT.sIx xs.length 0 lo)
def dCut (x : D) (lo hi : Option Int) (m : Mem) (Q : QD) : Prop := match x with
  | .str z => z.length ≤ sizeLine ∧ Q (.str (cutS z lo hi)) m
  | .tup xs => Q (.tup (cutD xs lo hi)) m
  | .lis xs => dRef m (.lst (cutD xs lo hi)) Q
  | .ref a => (match m a with
    | some (.lst xs) => dRef m (.lst (cutD xs lo hi)) Q
    | _ => False)
  | _ => False
def eCut (a : EE) (lo hi : EO) : EE := fun e m Q X => a e m (fun d m1 => lo e m1 (fun l m2 => hi e m2 (fun u m3 => dCut d l u m3 Q) X) X) X
def RO (K : PySem.W.Frag) (W : WX) (r : EO) : TO := fun σ H Q => ∃ e m Q0 X0, SlOk K H e σ ∧ MemOk K m H ∧ r e m Q0 X0 ∧ (∀ o m' H', Q0 o m' → Keep K H H' → MemOk K m' H' → Q o H') ∧ CE K H X0 (WE W σ)
theorem ov_none : PO X none (RO X.K W oNone) := ⟨fun pins s σ H Q I ⟨e, m, Q0, X0, hE, hM, h, hQ, _⟩ => po_none.run pins s σ H Q I (hQ none m H h (Keep.refl H) hM)⟩
theorem ov_some (ha : PE X a (RE X.K W ra)) : PO X (some a) (RO X.K W (oSome ra)) := ⟨fun pins s σ H Q I ⟨e, m, Q0, X0, hE, hM, h, hQ, hX⟩ => (po_some ha).run pins s σ H Q I ⟨e, m, _, X0, hE, hM, h, fun d m1 H1 v h1 k1 hM1 dv1 => by
  obtain ⟨i, rfl, rfl, h1⟩ := intQ_un dv1 h1
  exact ⟨i, rfl, hQ _ m1 H1 h1 k1 hM1⟩, hX⟩⟩
theorem cutV_dv {K : PySem.W.Frag} {H : Hp} {xs : List D} {vs : List V} (h : DVs K H xs vs) (lo hi : Option Int) : DVs K H (cutD xs lo hi) (cutV vs lo hi) := by
  unfold cutD cutV
  rw [h.length]
  exact (h.drop _).take _
theorem cut_whole {xs : List D} {lo hi : Option Int} (h : HT.sIx xs.length 0 lo = 0 ∧ HT.sIx xs.length xs.length hi = xs.length) : cutD xs lo hi = xs := by
  unfold cutD
  rw [h.1, h.2]
  simp
def SlV (K : PySem.W.Frag) : V → Option Int → Option Int → Hp → VK → Prop := fun x lo hi H Q => rSlS x lo hi H Q ∨ rSlA K x lo hi H Q ∨ rSlL K x lo hi H Q
theorem slV : SlR X (SlV X.K) := sl_str.or (sl_tupA.or sl_list)
theorem ev_cut {lo hi : Option Expr} {rl rh : EO} {p2 : Pos} (ha : PE X a (RE X.K W ra)) (hl : PO X lo (RO X.K W rl)) (hu : PO X hi (RO X.K W rh)) : PE X (.Subscript a (.Slice lo hi none p2) pos) (RE X.K W (eCut ra rl rh)) :=
  PEimp (pe_slice slV ha hl hu) fun σ H Q ⟨e, m, Q0, X0, hE, hM, h, hQ, hX⟩ => ⟨e, m, _, X0, hE, hM, h, fun d m1 H1 v h1 k1 hM1 dv1 =>
    ⟨e, m1, _, X0, hE.keep k1, hM1, h1, fun l m2 H2 h2 k2 hM2 => ⟨e, m2, _, X0, (hE.keep k1).keep k2, hM2, h2, fun u m3 H3 h3 k3 hM3 => by
      have dv3 := (dv1.keep k2).keep k3
      have hQ3 := hQ.keep (k1.trans (k2.trans k3))
      cases d with
      | str z => simp only [DV] at dv3; subst dv3; exact .inl ⟨z, rfl, h3.1, fin0 hQ3 hM3 h3.2 (by simp only [DV])⟩
      | tup xs =>
        have dv3' := dv3
        simp only [DV] at dv3
        obtain ⟨a, vs, rfl, ha, hv⟩ := dv3
        refine .inr (.inl ⟨a, vs, rfl, SqT.of ha, fun hw => ?_, fun _ p hp => finT hQ3 hM3 h3 (cutV_dv hv l u) p hp⟩)
        rw [hv.length] at hw
        have h3' : Q0 (.tup (cutD xs l u)) m3 := h3
        rw [cut_whole hw] at h3'
        exact fin0 hQ3 hM3 h3' dv3'
      | lis xs =>
        obtain ⟨a, vs, rfl, ha, hv⟩ := lisOf_dv (xs := xs) hM3 dv3 rfl
        exact .inr (.inr ⟨a, vs, rfl, ha, fun p hp => finL hQ3 hM3 h3 (cutV_dv hv l u) p hp⟩)
      | ref a =>
        simp only [dCut] at h3
        simp only [DV] at dv3; subst dv3
        cases q : m3 a with
        | none => rw [q] at h3; exact h3.elim
        | some o =>
          rw [q] at h3
          cases o with
          | lst xs =>
            obtain ⟨vs, ha, hv⟩ := hM3 a _ q
            exact .inr (.inr ⟨a, vs, rfl, SqL.of ha, fun p hp => finL hQ3 hM3 h3 (cutV_dv hv l u) p hp⟩)
          | _ => exact h3.elim
      | _ => exact h3.elim, (hX.keep k1).keep k2⟩, hX.keep k1⟩, hX⟩
end
end L2.EV
set_option maxHeartbeats 1000000
/-! EV7: calls of built-ins, methods of lists and texts. -/
namespace L2.EV
open PySem PySem.Spec PyProof.Rows
section
variable {X : Cx} {W : WX} {pos : Pos}
/-! ### calls by name -/
def eB (f : FL) (as : EA) : EE := fun e m Q X => as e m (fun ds m1 => f ds m1 Q) X
theorem rvl {as : EA} {f : FL} {σ : St} {H : Hp} {Q : VK} (h : RE X.K W (eB f as) σ H Q) : tCB (RVL X.K f) (RA X.K W as) σ H Q := by
  obtain ⟨e, m, Q0, X0, hE, hM, h, hQ, hX⟩ := h
  exact ⟨e, m, _, X0, hE, hM, h, fun ds m1 H1 vs h1 k1 hM1 dv1 => ⟨m1, ds, Q0, hM1, dv1, h1, hQ.keep k1⟩, hX⟩
theorem ev_callB {id : String} {f : FL} {x : Str} {p : Pos} {e : Expr} {es : List Expr} {as : EA} (hc : CallR X (.builtin id) (RVL X.K f)) (hm : X.mg x = none) (hv : bootBuiltins x = some (.builtin id)) (ha : PA X (e :: es) (RA X.K W as)) (hg : Gl X x := by rfl)
    (hn : x ≠ "__name__" := by decide) (hdb : (x == ("__debug__" : Str)) = false := by decide) (he : starEach (e :: es) X.env = (false, eval e X.env) :: starEach es X.env := by rfl) (hpl : (backTo pos (starEach es X.env)).any (·.1) = false := by rfl) :
    PE X (.Call (.Name x p) (e :: es) [] pos) (RE X.K W (eB f as)) := PEimp (pe_callB hc hg hm hv ha hn hdb he hpl) fun _ _ _ h => rvl h
theorem ev_callTy {id : String} {f : FL} {x : Str} {p : Pos} {e : Expr} {es : List Expr} {as : EA} (hc : CallR X (.type id) (RVL X.K f)) (hm : X.mg x = none) (hv : bootBuiltins x = some (.type id)) (ha : PA X (e :: es) (RA X.K W as)) (hg : Gl X x := by rfl)
    (hn : x ≠ "__name__" := by decide) (hdb : (x == ("__debug__" : Str)) = false := by decide) (he : starEach (e :: es) X.env = (false, eval e X.env) :: starEach es X.env := by rfl) (hpl : (backTo pos (starEach es X.env)).any (·.1) = false := by rfl) :
    PE X (.Call (.Name x p) (e :: es) [] pos) (RE X.K W (eB f as)) := PEimp (pe_callTy hc hg hm hv ha hn hdb he hpl) fun _ _ _ h => rvl h
def d1Q (ds : List D) (f : D → Prop) : Prop := match ds with
  | [d] => f d
  | _ => False
@[simp] theorem d1Q_one {d : D} {f : D → Prop} : d1Q [d] f = f d := rfl
theorem d1Q_un {K : PySem.W.Frag} {H : Hp} {ds : List D} {vs : List V} {f : D → Prop} (h : DVs K H ds vs) (q : d1Q ds f) : ∃ d v, ds = [d] ∧ vs = [v] ∧ DV K H d v ∧ f d := by
  cases ds with
  | nil => exact q.elim
  | cons d r =>
    cases r with
    | nil =>
      obtain ⟨v, r, rfl, h1, h2⟩ := h.un
      rw [h2.un0]
      exact ⟨d, v, rfl, rfl, h1, q⟩
    | cons _ _ => exact q.elim
def d2Q (ds : List D) (f : D → D → Prop) : Prop := match ds with
  | [d, c] => f d c
  | _ => False
@[simp] theorem d2Q_two {d c : D} {f : D → D → Prop} : d2Q [d, c] f = f d c := rfl
theorem d2Q_un {K : PySem.W.Frag} {H : Hp} {ds : List D} {vs : List V} {f : D → D → Prop} (h : DVs K H ds vs) (q : d2Q ds f) : ∃ d c v u, ds = [d, c] ∧ vs = [v, u] ∧ DV K H d v ∧ DV K H c u ∧ f d c := by
  cases ds with
  | nil => exact q.elim
  | cons d r =>
    cases r with
    | nil => exact q.elim
    | cons c r =>
      cases r with
      | nil =>
        obtain ⟨v, r, rfl, h1, h2⟩ := h.un
        obtain ⟨u, r, rfl, h3, h4⟩ := h2.un
        rw [h4.un0]
        exact ⟨d, c, v, u, rfl, rfl, h1, h3, q⟩
      | cons _ _ => exact q.elim
/-! ### len -/
def lenQ (d : D) (m : Mem) (f : Nat → Prop) : Prop := match d with
  | .str z => z.length ≤ sizeLine ∧ f z.length
  | .tup xs => f xs.length
  | .ct xs => f xs.length
  | .lis xs => f xs.length
  | .ref a => (match m a with
    | some (.lst xs) => f xs.length
    | _ => False)
  | _ => False
def bLen : FL := fun ds m Q => d1Q ds fun d => lenQ d m fun n => Q (.int n) m
theorem c_len : CallR X (.builtin "len") (RVL X.K bLen) := fun pins s σ H xs us Q I r ⟨m, ds, Q0, hM, hd, h, hQ⟩ => by
  obtain ⟨d, v, rfl, rfl, h1, h⟩ := d1Q_un hd h
  cases d with
  | str z => simp only [DV] at h1; subst h1; exact call_len pins s σ H _ us Q I r ⟨_, z.length, rfl, ⟨h.1, rfl⟩, fin0 hQ hM h.2 (by simp only [DV])⟩
  | tup ys =>
    obtain ⟨a, vs, rfl, ha, hv⟩ := tupOf_dv (xs := ys) h1 rfl
    exact call_len pins s σ H _ us Q I r ⟨_, ys.length, rfl, .inr ⟨vs, ha, hv.length.symm⟩, fin0 hQ hM h (by simp only [DV])⟩
  | ct ys =>
    obtain ⟨a, vs, rfl, ha, hv⟩ := tupOf_dv (xs := ys) h1 rfl
    exact call_len pins s σ H _ us Q I r ⟨_, ys.length, rfl, .inr ⟨vs, ha, hv.length.symm⟩, fin0 hQ hM h (by simp only [DV])⟩
  | lis ys =>
    obtain ⟨a, vs, rfl, ha, hv⟩ := lisOf_dv (xs := ys) hM h1 rfl
    exact call_len pins s σ H _ us Q I r ⟨_, ys.length, rfl, .inl ⟨vs, ha, hv.length.symm⟩, fin0 hQ hM h (by simp only [DV])⟩
  | ref a =>
    simp only [lenQ] at h
    simp only [DV] at h1; subst h1
    cases q : m a with
    | none => rw [q] at h; exact h.elim
    | some o =>
      rw [q] at h
      cases o with
      | lst ys =>
        obtain ⟨vs, ha, hv⟩ := hM a _ q
        exact call_len pins s σ H _ us Q I r ⟨_, ys.length, rfl, .inl ⟨vs, SqL.of ha, hv.length.symm⟩, fin0 hQ hM h (by simp only [DV])⟩
      | _ => exact h.elim
  | _ => exact h.elim
/-! ### isinstance against built-in classes -/
def tyN (m : Mem) : D → Option String
  | .non => some "NoneType"
  | .bl _ => some "bool"
  | .int _ => some "int"
  | .str _ => some "str"
  | .tup _ => some "tuple"
  | .ct _ => some "tuple"
  | .lis _ => some "list"
  | .ref a => match m a with
    | some (.lst _) => some "list"
    | some (.dK _) => some "dict"
    | some (.dT _) => some "dict"
    | _ => none
  | _ => none
def isTy (a b : String) : Bool := a == b || (a == "bool" && b == "int")
def tyNames : List String := ["NoneType", "bool", "int", "str", "tuple", "list", "dict"]
theorem kit_all : (tyNames.all fun a => tyNames.all fun b => decide (b = "NoneType") || decide (kitB a b = some (isTy a b))) = true := by decide +kernel
theorem kit_is {K : PySem.W.Frag} {a b : String} (ha : a ∈ tyNames) (hb : b ∈ tyNames) (hn : b ≠ "NoneType") : PySem.W.kitOne K (.type a) (.type b) = some (isTy a b) := by
  have h := List.all_eq_true.mp (List.all_eq_true.mp kit_all a ha) b hb
  rw [decide_eq_false hn, Bool.false_or] at h
  exact kit_ty (of_decide_eq_true h)
theorem tyN_mem {m : Mem} {d : D} {a : String} (h : tyN m d = some a) : a ∈ tyNames := by
  cases d with
  | ref p =>
    simp only [tyN] at h
    cases q : m p with
    | none => rw [q] at h; cases h
    | some o =>
      rw [q] at h
      cases o <;> cases h <;> decide
  | _ => cases h <;> decide
theorem tyN_dv {K : PySem.W.Frag} {H : Hp} {m : Mem} (hM : MemOk K m H) {d : D} {v : V} {a : String} (h1 : DV K H d v) (h : tyN m d = some a) : TyX K H v (.type a) := by
  cases d with
  | non => cases h; simp only [DV] at h1; subst h1; exact .base .non
  | bl b => cases h; simp only [DV] at h1; subst h1; exact .base (.bl b)
  | int i => cases h; simp only [DV] at h1; subst h1; exact .base (.int i)
  | str z => cases h; simp only [DV] at h1; subst h1; exact .base (.str z)
  | tup xs => cases h; simp only [DV] at h1; obtain ⟨b, vs, rfl, e, _⟩ := h1; exact .base (.tup e)
  | ct xs => cases h; simp only [DV] at h1; obtain ⟨b, vs, rfl, ⟨o, its, n, e, c, _⟩, _⟩ := h1; exact .kTuple e c
  | lis xs =>
    cases h; simp only [DV] at h1
    obtain ⟨b, vs, rfl, e, _⟩ := h1
    rcases e with ⟨o, e⟩ | ⟨o, its, n, e, c, _⟩
    · exact .base (.frz e)
    · exact .kList e c
  | ref p =>
    simp only [tyN] at h
    simp only [DV] at h1; subst h1
    cases q : m p with
    | none => rw [q] at h; cases h
    | some o =>
      rw [q] at h
      cases o with
      | lst xs => cases h; obtain ⟨vs, e, _⟩ := hM p _ q; exact .base (.lst e)
      | dK xs => cases h; obtain ⟨vs, e, _⟩ := hM p _ q; exact .base (.dK e)
      | dT xs => cases h; obtain ⟨vs, e, _⟩ := hM p _ q; exact .base (.dT e)
      | _ => cases h
  | _ => cases h
def okTy (b : String) : Bool := decide (b ∈ tyNames) && !decide (b = "NoneType")
/-- the classes that are asked -/
def tysOf : D → Option (List String)
  | .ty n => some [n]
  | .tup [.ty a, .ty b] => some [a, b]
  | .tup [.ty a, .ty b, .ty c] => some [a, b, c]
  | _ => none
def isiQ (m : Mem) (d c : D) (f : Bool → Prop) : Prop := match tyN m d, tysOf c with
  | some a, some bs => bs.all okTy = true ∧ f (bs.any (isTy a))
  | _, _ => False
def bIsi : FL := fun ds m Q => d2Q ds fun d c => isiQ m d c fun b => Q (.bl b) m
theorem okTy_un {b : String} (h : okTy b = true) : b ∈ tyNames ∧ b ≠ "NoneType" := by
  unfold okTy at h
  rw [Bool.and_eq_true] at h
  exact ⟨of_decide_eq_true h.1, by simpa using h.2⟩
theorem kitAny_is {K : PySem.W.Frag} {a : String} (ha : a ∈ tyNames) : ∀ {bs : List String}, bs.all okTy = true → PySem.W.kitAny K (.type a) (bs.map Value.type) = some (bs.any (isTy a))
  | [], _ => rfl
  | b :: bs, h => by
    rw [List.all_cons, Bool.and_eq_true] at h
    obtain ⟨h1, h2⟩ := okTy_un h.1
    rw [List.map_cons, List.any_cons]
    refine kitAny_cons (kit_is ha h1 h2) (fun e => ?_) (fun e => by rw [e]; rfl)
    rw [e, Bool.false_or]
    exact kitAny_is ha h.2
theorem ty_dv {K : PySem.W.Frag} {H : Hp} {n : String} {v : V} (h : DV K H (.ty n) v) : v = .ty n := by simpa only [DV] using h
theorem c_isi : CallR X (.builtin "isinstance") (RVL X.K bIsi) := fun pins s σ H xs us Q I r ⟨m, ds, Q0, hM, hd, h, hQ⟩ => by
  obtain ⟨d, c, v, u, rfl, rfl, h1, h2, h⟩ := d2Q_un hd h
  unfold isiQ at h
  cases ea : tyN m d with
  | none => rw [ea] at h; exact h.elim
  | some a =>
    have ma := tyN_mem ea
    have ta := tyN_dv hM h1 ea
    rw [ea] at h
    cases eb : tysOf c with
    | none => rw [eb] at h; exact h.elim
    | some bs =>
      rw [eb] at h
      obtain ⟨ok, h⟩ := h
      unfold tysOf at eb
      split at eb
      · rename_i n
        cases eb
        rw [ty_dv h2] at r
        have ok' : okTy n = true := by simpa using ok
        obtain ⟨o1, o2⟩ := okTy_un ok'
        have h' : Q0 (.bl (isTy a n)) m := by simpa using h
        exact call_isi pins s σ H _ us Q I r ⟨v, .ty n, .type a, .type n, isTy a n, rfl, .ty n, ta, kit_is ma o1 o2, fin0 hQ hM h' (by simp only [DV])⟩
      · rename_i n1 n2
        cases eb
        simp only [DV] at h2
        obtain ⟨tp, vs, rfl, e, hv⟩ := h2
        obtain ⟨v1, r1, rfl, w1, hv⟩ := hv.un
        obtain ⟨v2, r2, rfl, w2, hv⟩ := hv.un
        rw [hv.un0, ty_dv w1, ty_dv w2] at e
        exact call_isiT pins s σ H _ us Q I r ⟨v, tp, _, .type a, [n1, n2].map Value.type, _, rfl, e, .cons (.ty n1) (.cons (.ty n2) .nil), ta, kitAny_is ma ok, fin0 hQ hM h (by simp only [DV])⟩
      · rename_i n1 n2 n3
        cases eb
        simp only [DV] at h2
        obtain ⟨tp, vs, rfl, e, hv⟩ := h2
        obtain ⟨v1, r1, rfl, w1, hv⟩ := hv.un
        obtain ⟨v2, r2, rfl, w2, hv⟩ := hv.un
        obtain ⟨v3, r3, rfl, w3, hv⟩ := hv.un
        rw [hv.un0, ty_dv w1, ty_dv w2, ty_dv w3] at e
        exact call_isiT pins s σ H _ us Q I r ⟨v, tp, _, .type a, [n1, n2, n3].map Value.type, _, rfl, e, .cons (.ty n1) (.cons (.ty n2) (.cons (.ty n3) .nil)), ta, kitAny_is ma ok, fin0 hQ hM h (by simp only [DV])⟩
      · cases eb
/-! ### list(..), tuple(..), int(..), abs, sum, all -/
def signs (z : Str) : List D := z.cps.toList.map fun c => .str ⟨#[c]⟩
def seqOf (m : Mem) : D → Option (List D)
  | .tup xs => some xs
  | .ct xs => some xs
  | .lis xs => some xs
  | .ref a => match m a with
    | some (.lst xs) => some xs
    | _ => none
  | _ => none
theorem seqOf_dv {K : PySem.W.Frag} {H : Hp} {m : Mem} (hM : MemOk K m H) {d : D} {v : V} {xs : List D} (h : DV K H d v) (e : seqOf m d = some xs) : ∃ a vs, v = .ref a ∧ (SqL K H a vs ∨ SqT K H a vs) ∧ DVs K H xs vs := by
  cases d with
  | tup ys => cases e; obtain ⟨a, vs, e, h1, h2⟩ := tupOf_dv h rfl; exact ⟨a, vs, e, .inr h1, h2⟩
  | ct ys => cases e; obtain ⟨a, vs, e, h1, h2⟩ := tupOf_dv h rfl; exact ⟨a, vs, e, .inr h1, h2⟩
  | lis ys => cases e; obtain ⟨a, vs, e, h1, h2⟩ := lisOf_dv hM h rfl; exact ⟨a, vs, e, .inl h1, h2⟩
  | ref a =>
    obtain ⟨a', vs, e, h1, h2⟩ := lisOf_dv (xs := xs) hM h (by
      simp only [seqOf] at e
      simp only [lisOf]
      cases q : m a with
      | none => rw [q] at e; cases e
      | some o => rw [q] at e; cases o <;> first | exact e | cases e)
    exact ⟨a', vs, e, .inl h1, h2⟩
  | _ => cases e
theorem signs_dv {K : PySem.W.Frag} {H : Hp} : ∀ cs : List Nat, DVs K H (cs.map fun c => .str ⟨#[c]⟩) (cs.map fun c => .str ⟨#[c]⟩)
  | [] => .nil
  | c :: cs => .cons (by simp only [DV]) (signs_dv cs)
def bList : FL := fun ds m Q => d1Q ds fun d => match d with
  | .str z => z.length ≤ sizeLine ∧ dRef m (.lst (signs z)) Q
  | d => match seqOf m d with
    | some xs => dRef m (.lst xs) Q
    | none => False
theorem call_list_str' (hc : X.calm = true) : CallR X (.type "list") (fun xs H Q => ∃ z : Str, xs = [.str z] ∧ z.length ≤ sizeLine ∧ ∀ l, H l = none → Q (.ref l) (upd H l (.lst (z.cps.toList.map fun c => .str ⟨#[c]⟩)))) := by
  intro pins s σ H xs us Q I r h
  obtain ⟨z, rfl, hz, q⟩ := h
  obtain ⟨u, rfl, rx⟩ := vals1 r
  obtain ⟨t, rfl⟩ := rx
  refine PySem.call_list_str (I.ok.hd hc) z t (fun h' tk acc c' k e it => ?_) hz
  refine ⟨.ref s.heap.objs.size, _, I.laid (t' := tk) k (Nat.le_refl _) (show ObjOk X.prog X.w _ h' _ (.lst (z.cps.toList.map fun c => .str ⟨#[c]⟩)) from ⟨?_, acc.toList, c', ?_, by simpa using e⟩), rfl, q _ (I.hok.fresh (Nat.le_refl _))⟩
  · rw [List.length_map, Array.length_toList]; exact hz
  · refine vals_of_at ?_ fun j x u hx hu => ?_
    · rw [List.length_map, Array.length_toList, Array.length_toList]; exact it.1.symm
    · rw [List.getElem?_map] at hx
      rw [Array.getElem?_toList] at hu
      obtain ⟨c, t', hc', rfl⟩ := it.2 j u hu
      rw [Array.getElem?_toList, hc'] at hx
      cases hx
      exact ⟨t', rfl⟩
theorem c_list (hc : X.calm = true) : CallR X (.type "list") (RVL X.K bList) := fun pins s σ H xs us Q I r ⟨m, ds, Q0, hM, hd, h, hQ⟩ => by
  obtain ⟨d, v, rfl, rfl, h1, h⟩ := d1Q_un hd h
  have seq : ∀ {ys : List D}, seqOf m d = some ys → dRef m (.lst ys) Q0 → wpAny (model X.prog X.w) X.A (call (.type "list") us) (EP X pins σ Q) X.xe s := fun {ys} e h => by
    obtain ⟨a, vs, rfl, ha, hv⟩ := seqOf_dv hM h1 e
    exact call_list_of pins s σ H _ us Q I r ⟨a, vs, rfl, ha, fun l hl => finL hQ hM h hv l hl⟩
  cases d with
  | str z =>
    simp only [DV] at h1; subst h1
    exact call_list_str' hc pins s σ H _ us Q I r ⟨z, rfl, h.1, fun l hl => finL hQ hM h.2 (signs_dv _) l hl⟩
  | tup ys => exact seq rfl h
  | ct ys => exact seq rfl h
  | lis ys => exact seq rfl h
  | ref a =>
    simp only at h
    cases e : seqOf m (.ref a) with
    | none => rw [e] at h; exact h.elim
    | some ys => rw [e] at h; exact seq e h
  | _ => exact h.elim
def tupQ (m : Mem) (d : D) (Q : QD) : Prop := match d with
  | .tup xs => Q (.tup xs) m
  | .ct xs => Q (.ct xs) m
  | .lis xs => Q (.tup xs) m
  | .ref a => (match m a with
    | some (.lst xs) => Q (.tup xs) m
    | _ => False)
  | _ => False
def bTuple : FL := fun ds m Q => d1Q ds fun d => tupQ m d Q
theorem c_tuple : CallR X (.type "tuple") (RVL X.K bTuple) := fun pins s σ H xs us Q I r ⟨m, ds, Q0, hM, hd, h, hQ⟩ => by
  obtain ⟨d, v, rfl, rfl, h1, h⟩ := d1Q_un hd h
  cases d with
  | tup ys =>
    obtain ⟨a, vs, rfl, ha, hv⟩ := tupOf_dv (xs := ys) h1 rfl
    exact call_tuple_of pins s σ H _ us Q I r ⟨a, vs, rfl, .inr ⟨ha, fin0 hQ hM h h1⟩⟩
  | ct ys =>
    obtain ⟨a, vs, rfl, ha, hv⟩ := tupOf_dv (xs := ys) h1 rfl
    exact call_tuple_of pins s σ H _ us Q I r ⟨a, vs, rfl, .inr ⟨ha, fin0 hQ hM h h1⟩⟩
  | lis ys =>
    obtain ⟨a, vs, rfl, ha, hv⟩ := lisOf_dv (xs := ys) hM h1 rfl
    exact call_tuple_of pins s σ H _ us Q I r ⟨a, vs, rfl, .inl ⟨ha, fun l hl => finT hQ hM h hv l hl⟩⟩
  | ref a =>
    simp only [tupQ] at h
    simp only [DV] at h1; subst h1
    cases q : m a with
    | none => rw [q] at h; exact h.elim
    | some o =>
      rw [q] at h
      cases o with
      | lst ys =>
        obtain ⟨vs, ha, hv⟩ := hM a _ q
        exact call_tuple_of pins s σ H _ us Q I r ⟨a, vs, rfl, .inl ⟨SqL.of ha, fun l hl => finT hQ hM h hv l hl⟩⟩
      | _ => exact h.elim
  | _ => exact h.elim
def bInt : FL := fun ds m Q => d1Q ds fun d => intQ d fun i => Q (.int i) m
theorem c_int : CallR X (.type "int") (RVL X.K bInt) := fun pins s σ H xs us Q I r ⟨m, ds, Q0, hM, hd, h, hQ⟩ => by
  obtain ⟨d, v, rfl, rfl, h1, h⟩ := d1Q_un hd h
  obtain ⟨i, rfl, rfl, h⟩ := intQ_un h1 h
  exact call_int1 pins s σ H _ us Q I r (.inl ⟨i, rfl, fin0 hQ hM h (by simp only [DV])⟩)
def bAbs : FL := fun ds m Q => d1Q ds fun d => intQ d fun i => Q (.int (if i < 0 then -i else i)) m
theorem c_abs : CallR X (.builtin "abs") (RVL X.K bAbs) := fun pins s σ H xs us Q I r ⟨m, ds, Q0, hM, hd, h, hQ⟩ => by
  obtain ⟨d, v, rfl, rfl, h1, h⟩ := d1Q_un hd h
  obtain ⟨i, rfl, rfl, h⟩ := intQ_un h1 h
  exact call_abs pins s σ H _ us Q I r ⟨i, rfl, fin0 hQ hM h (by simp only [DV])⟩
def intsOf : List D → Option (List Int)
  | [] => some []
  | .int i :: ds => (intsOf ds).map (i :: ·)
  | _ :: _ => none
theorem intsOf_dv {K : PySem.W.Frag} {H : Hp} : ∀ {ds : List D} {vs : List V} {ns : List Int}, DVs K H ds vs → intsOf ds = some ns → vs = ns.map V.int
  | [], vs, ns, h, e => by cases e; rw [h.un0]; rfl
  | d :: ds, vs, ns, h, e => by
    obtain ⟨v, r, rfl, h1, h2⟩ := h.un
    cases d with
    | int i =>
      simp only [intsOf] at e
      cases q : intsOf ds with
      | none => rw [q] at e; cases e
      | some ms =>
        rw [q] at e
        cases e
        simp only [DV] at h1
        rw [h1, intsOf_dv h2 q]; rfl
    | _ => cases e
theorem intsOf_map : ∀ ns : List Int, intsOf (ns.map D.int) = some ns
  | [] => rfl
  | n :: ns => by simp only [List.map_cons, intsOf, intsOf_map ns, Option.map_some]
def optQ {α : Type} (o : Option α) (f : α → Prop) : Prop := match o with
  | some a => f a
  | none => False
@[simp] theorem optQ_some {α : Type} {a : α} {f : α → Prop} : optQ (some a) f = f a := rfl
theorem optQ_un {α : Type} {o : Option α} {f : α → Prop} (h : optQ o f) : ∃ a, o = some a ∧ f a := by
  cases o with
  | some a => exact ⟨a, rfl, h⟩
  | none => exact h.elim
def bSum : FL := fun ds m Q => d1Q ds fun d => optQ ((lisOf m d).bind intsOf) fun ns => Q (.int ns.sum) m
theorem c_sum (hc : X.calm = true) : CallR X (.builtin "sum") (RVL X.K bSum) := fun pins s σ H xs us Q I r ⟨m, ds, Q0, hM, hd, h, hQ⟩ => by
  obtain ⟨d, v, rfl, rfl, h1, h⟩ := d1Q_un hd h
  obtain ⟨ns, e, h⟩ := optQ_un h
  cases q : lisOf m d with
  | none => rw [q] at e; cases e
  | some ys =>
    rw [q, Option.bind_some] at e
    obtain ⟨a, vs, rfl, ha, hv⟩ := lisOf_dv hM h1 q
    rw [intsOf_dv hv e] at ha
    exact cr_sum hc pins s σ H _ us Q I r ⟨a, ns, rfl, ha, fin0 hQ hM h (by simp only [DV])⟩
def blsOf : List D → Option (List Bool)
  | [] => some []
  | .bl i :: ds => (blsOf ds).map (i :: ·)
  | _ :: _ => none
theorem blsOf_dv {K : PySem.W.Frag} {H : Hp} : ∀ {ds : List D} {vs : List V} {ns : List Bool}, DVs K H ds vs → blsOf ds = some ns → vs = ns.map V.bl
  | [], vs, ns, h, e => by cases e; rw [h.un0]; rfl
  | d :: ds, vs, ns, h, e => by
    obtain ⟨v, r, rfl, h1, h2⟩ := h.un
    cases d with
    | bl i =>
      simp only [blsOf] at e
      cases q : blsOf ds with
      | none => rw [q] at e; cases e
      | some ms =>
        rw [q] at e
        cases e
        simp only [DV] at h1
        rw [h1, blsOf_dv h2 q]; rfl
    | _ => cases e
theorem blsOf_map : ∀ ns : List Bool, blsOf (ns.map D.bl) = some ns
  | [] => rfl
  | n :: ns => by simp only [List.map_cons, blsOf, blsOf_map ns, Option.map_some]
def bAll : FL := fun ds m Q => d1Q ds fun d => optQ ((lisOf m d).bind blsOf) fun ns => Q (.bl (ns.all id)) m
theorem c_all (hc : X.calm = true) : CallR X (.builtin "all") (RVL X.K bAll) := fun pins s σ H xs us Q I r ⟨m, ds, Q0, hM, hd, h, hQ⟩ => by
  obtain ⟨d, v, rfl, rfl, h1, h⟩ := d1Q_un hd h
  obtain ⟨ns, e, h⟩ := optQ_un h
  cases q : lisOf m d with
  | none => rw [q] at e; cases e
  | some ys =>
    rw [q, Option.bind_some] at e
    obtain ⟨a, vs, rfl, ha, hv⟩ := lisOf_dv hM h1 q
    rw [blsOf_dv hv e] at ha
    exact cr_all hc pins s σ H _ us Q I r ⟨a, ns, rfl, ha, fin0 hQ hM h (by simp only [DV])⟩
def bAny : FL := fun ds m Q => d1Q ds fun d => optQ ((lisOf m d).bind blsOf) fun ns => Q (.bl (ns.any id)) m
theorem c_any (hc : X.calm = true) : CallR X (.builtin "any") (RVL X.K bAny) := fun pins s σ H xs us Q I r ⟨m, ds, Q0, hM, hd, h, hQ⟩ => by
  obtain ⟨d, v, rfl, rfl, h1, h⟩ := d1Q_un hd h
  obtain ⟨ns, e, h⟩ := optQ_un h
  cases q : lisOf m d with
  | none => rw [q] at e; cases e
  | some ys =>
    rw [q, Option.bind_some] at e
    obtain ⟨a, vs, rfl, ha, hv⟩ := lisOf_dv hM h1 q
    rw [blsOf_dv hv e] at ha
    exact cr_any hc pins s σ H _ us Q I r ⟨a, ns, rfl, ha, fin0 hQ hM h (by simp only [DV])⟩

/-! ### methods of lists and texts -/
abbrev FM := D → List D → Mem → QD → Prop
def RVM (K : PySem.W.Frag) (f : FM) : V → List V → Hp → VK → Prop := fun x vs H Q => ∃ m d ds Q0, MemOk K m H ∧ DV K H d x ∧ DVs K H ds vs ∧ f d ds m Q0 ∧ CQ K H Q0 Q
def isLst (d : D) (m : Mem) : Prop := match d with
  | .ref a => (match m a with
    | some (.lst _) => True
    | _ => False)
  | .lis _ => True
  | _ => False
def isStr (d : D) (_ : Mem) : Prop := match d with
  | .str _ => True
  | _ => False
def eM (is : D → Mem → Prop) (f : FM) (o : EE) (as : EA) : EE := fun e m Q X => o e m (fun x m1 => is x m1 ∧ as e m1 (fun ds m2 => f x ds m2 Q) X) X
theorem isLst_dv {K : PySem.W.Frag} {H : Hp} {m : Mem} (hM : MemOk K m H) {d : D} {v : V} (h : DV K H d v) (e : isLst d m) : tyV K "list" v H := by
  cases d with
  | lis xs => obtain ⟨a, vs, rfl, ha, _⟩ := lisOf_dv (xs := xs) hM h rfl; exact .inl ⟨rfl, vs, ha⟩
  | ref a =>
    simp only [DV] at h; subst h
    simp only [isLst] at e
    cases q : m a with
    | none => rw [q] at e; exact e.elim
    | some o =>
      rw [q] at e
      cases o with
      | lst xs => obtain ⟨vs, ha, hv⟩ := hM a _ q; exact .inl ⟨rfl, vs, SqL.of ha⟩
      | _ => exact e.elim
  | _ => exact e.elim
theorem isStr_dv {K : PySem.W.Frag} {H : Hp} {m : Mem} (_ : MemOk K m H) {d : D} {v : V} (h : DV K H d v) (e : isStr d m) : tyV K "str" v H := by
  cases d with
  | str z => simp only [DV] at h; subst h; exact rfl
  | _ => exact e.elim
theorem ev_m0 {T id : String} {name : Str} {is : D → Mem → Prop} {f : FM} {o : Expr} {ro : EE} {apos : Pos} (pa : PlainAttrs T) (slot : Slot T name id) (hty : typeOf (.builtin id) = pure (.type "method_descriptor")) (hm : MtR X id (RVM X.K f))
    (hi : ∀ {H m d v}, MemOk X.K m H → DV X.K H d v → is d m → tyV X.K T v H) (ho : PE X o (RE X.K W ro)) (hbase : attributeBase o name X.env (eval o X.env) = eval o X.env := by rfl) (hline : (apos.endLine == pos.line) = true := by rfl) :
    PE X (.Call (.Attribute o name apos) [] [] pos) (RE X.K W (eM is f ro aNil)) := PEimp (pe_bm0 pa slot hty hm ho hbase hline) fun σ H Q ⟨e, m, Q0, X0, hE, hM, h, hQ, hX⟩ =>
  ⟨e, m, _, X0, hE, hM, h, fun d m1 H1 v h1 k1 hM1 dv1 => ⟨hi hM1 dv1 h1.1, m1, d, [], Q0, hM1, dv1, .nil, h1.2, hQ.keep k1⟩, hX⟩
theorem ev_m {T id : String} {name : Str} {is : D → Mem → Prop} {f : FM} {o e : Expr} {es : List Expr} {ro : EE} {as : EA} {apos : Pos} (pa : PlainAttrs T) (slot : Slot T name id) (hty : typeOf (.builtin id) = pure (.type "method_descriptor")) (hm : MtR X id (RVM X.K f))
    (hi : ∀ {H m d v}, MemOk X.K m H → DV X.K H d v → is d m → tyV X.K T v H) (ho : PE X o (RE X.K W ro)) (ha : PA X (e :: es) (RA X.K W as)) (hbase : attributeBase o name X.env (eval o X.env) = eval o X.env := by rfl)
    (hfew : ((backTo pos (starEach (e :: es) X.env)).all (fun x => !x.1) && (backToKw pos (keywordEach [] X.env)).all (fun x => x.1.isSome)
      && decide ((e :: es).length + ([] : List Keyword).length + (if ([] : List Keyword).isEmpty then 0 else 1) < 30)) = true := by rfl)
    (hline : (apos.endLine == pos.line) = true := by rfl) (hs : starEach (e :: es) X.env = (false, eval e X.env) :: starEach es X.env := by rfl) (hplain : (backTo pos (starEach es X.env)).any (·.1) = false := by rfl) :
    PE X (.Call (.Attribute o name apos) (e :: es) [] pos) (RE X.K W (eM is f ro as)) := PEimp (pe_bm pa slot hty hm ho ha hbase hfew hline hs hplain) fun σ H Q ⟨e, m, Q0, X0, hE, hM, h, hQ, hX⟩ =>
  ⟨e, m, _, X0, hE, hM, h, fun d m1 H1 v h1 k1 hM1 dv1 => ⟨hi hM1 dv1 h1.1, e, m1, _, X0, hE.keep k1, hM1, h1.2, fun ds m2 H2 vs h2 k2 hM2 dv2 => ⟨m2, d, ds, Q0, hM2, dv1.keep k2, dv2, h2, hQ.keep (k1.trans k2)⟩, hX.keep k1⟩, hX⟩
/-- a list that can change -/
def lstQ (d : D) (m : Mem) (f : Addr → List D → Prop) : Prop := match d with
  | .ref a => (match m a with
    | some (.lst xs) => f a xs
    | _ => False)
  | _ => False
@[simp] theorem lstQ_ref {a : Addr} {m : Mem} {xs : List D} {f : Addr → List D → Prop} (h : m a = some (.lst xs)) : lstQ (.ref a) m f = f a xs := by simp only [lstQ, h]
theorem lstQ_un {d : D} {m : Mem} {f : Addr → List D → Prop} (h : lstQ d m f) : ∃ a xs, d = .ref a ∧ m a = some (.lst xs) ∧ f a xs := by
  cases d with
  | ref a =>
    simp only [lstQ] at h
    cases q : m a with
    | none => rw [q] at h; exact h.elim
    | some o =>
      rw [q] at h
      cases o with
      | lst xs => exact ⟨a, xs, rfl, q, h⟩
      | _ => exact h.elim
  | _ => exact h.elim
/-- a list is changed -/
theorem finS {K : PySem.W.Frag} {H : Hp} {m : Mem} {Q0 : QD} {Q : VK} {a : Addr} {vs ws : List V} {ys : List D} {d : D} {v : V} (hQ : CQ K H Q0 Q) (hM : MemOk K m H) (ha : H a = some (.lst vs)) (h : Q0 d (mup m a (.lst ys))) (hy : DVs K H ys ws) (hd : DV K H d v) : Q v (upd H a (.lst ws)) := by
  have l : Loose (H a) := by rw [ha]; trivial
  have k : Keep K H (upd H a (.lst ws)) := keep_upd l
  exact hQ _ _ _ _ h k (hM.upd l ⟨ws, upd_same, hy.keep k⟩) (hd.keep k)
def mAppend : FM := fun x ds m Q => lstQ x m fun a xs => d1Q ds fun d => xs.length < sizeLine ∧ Q .non (mup m a (.lst (xs ++ [d])))
theorem m_append : MtR X "list.append" (RVM X.K mAppend) := fun pins s σ H x vs v us Q I rx rv ⟨m, d, ds, Q0, hM, hx, hd, h, hQ⟩ => by
  obtain ⟨a, xs, rfl, e, h⟩ := lstQ_un h
  obtain ⟨y, w', rfl, rfl, h1, h⟩ := d1Q_un hd h
  obtain ⟨ws, ha, hv⟩ := hM a _ e
  simp only [DV] at hx; subst hx
  exact mt_append pins s σ H _ _ v us Q I rx rv ⟨a, ws, w', rfl, rfl, ha, by rw [hv.length]; exact h.1, finS hQ hM ha h.2 (hv.append (.cons h1 .nil)) (by simp only [DV])⟩
def mPop : FM := fun x ds m Q => lstQ x m fun a xs => match ds with
  | [] => someQ (xs[xs.length - 1]?) (mup m a (.lst xs.dropLast)) Q
  | _ => False
theorem m_pop : MtR X "list.pop" (RVM X.K mPop) := fun pins s σ H x vs v us Q I rx rv ⟨m, d, ds, Q0, hM, hx, hd, h, hQ⟩ => by
  obtain ⟨a, xs, rfl, e, h⟩ := lstQ_un h
  cases ds with
  | nil =>
    obtain ⟨ws, ha, hv⟩ := hM a _ e
    simp only [DV] at hx; subst hx
    have e0 := hd.un0
    subst e0
    cases q : xs[xs.length - 1]? with
    | none => rw [q] at h; exact h.elim
    | some y =>
      rw [q] at h
      obtain ⟨w', q', hw⟩ := hv.get q
      exact mt_pop pins s σ H _ _ v us Q I rx rv ⟨a, ws, w', rfl, rfl, ha, by rw [hv.length]; exact q', finS hQ hM ha h hv.dropLast hw⟩
  | cons _ _ => exact h.elim
def mExtend : FM := fun x ds m Q => lstQ x m fun a xs => d1Q ds fun d => lstQ d m fun _ ys => xs.length + ys.length ≤ sizeLine ∧ Q .non (mup m a (.lst (xs ++ ys)))
theorem m_extend : MtR X "list.extend" (RVM X.K mExtend) := fun pins s σ H x vs v us Q I rx rv ⟨m, d, ds, Q0, hM, hx, hd, h, hQ⟩ => by
  obtain ⟨a, xs, rfl, e, h⟩ := lstQ_un h
  obtain ⟨y, w', rfl, rfl, h1, h⟩ := d1Q_un hd h
  obtain ⟨b, ys, rfl, e2, h⟩ := lstQ_un h
  obtain ⟨ws, ha, hv⟩ := hM a _ e
  obtain ⟨ws2, hb, hv2⟩ := hM b _ e2
  simp only [DV] at hx h1; subst hx h1
  exact mt_extend pins s σ H _ _ v us Q I rx rv ⟨a, b, ws, ws2, rfl, rfl, ha, hb, by rw [hv.length, hv2.length]; exact h.1, finS hQ hM ha h.2 (hv.append hv2) (by simp only [DV])⟩
/-- the first place of an equal one -/
def idxD (y : D) : List D → Option Nat
  | [] => none
  | z :: zs => if eqD z y then some 0 else (idxD y zs).map (· + 1)
def mIndex : FM := fun x ds m Q => optQ (lisOf m x) fun xs => d1Q ds fun d => inOk d xs ∧ optQ (idxD d xs) fun n => Q (.int (n : Nat)) m
theorem toPys_get : ∀ (ds : List D) (j : Nat), (toPys ds)[j]? = (ds[j]?).map toPy
  | [], j => by simp [toPys]
  | d :: ds, 0 => by simp [toPys]
  | d :: ds, j + 1 => by simp only [toPys, List.getElem?_cons_succ, toPys_get ds j]
theorem plains_get : ∀ {ds : List D} {j : Nat} {d : D}, plains ds = true → ds[j]? = some d → plain d = true
  | [], _, _, _, e => by simp at e
  | d :: ds, 0, c, h, e => by simp only [plains, Bool.and_eq_true] at h; simp at e; rw [← e]; exact h.1
  | d :: ds, j + 1, c, h, e => by simp only [plains, Bool.and_eq_true] at h; exact plains_get (j := j) h.2 (by simpa using e)
theorem idxD_spec {y : D} : ∀ {xs : List D} {n : Nat}, idxD y xs = some n → (∃ z, xs[n]? = some z ∧ eqD z y = true) ∧ ∀ (k : Nat) z, k < n → xs[k]? = some z → eqD z y = false
  | [], _, e => by cases e
  | z :: zs, n, e => by
    simp only [idxD] at e
    by_cases q : eqD z y = true
    · rw [if_pos q] at e
      cases e
      exact ⟨⟨z, rfl, q⟩, fun k z' hk _ => absurd hk (Nat.not_lt_zero k)⟩
    · rw [if_neg q] at e
      cases q2 : idxD y zs with
      | none => rw [q2] at e; cases e
      | some n' =>
        rw [q2] at e
        cases e
        obtain ⟨h1, h2⟩ := idxD_spec q2
        refine ⟨by simpa using h1, fun k z' hk e' => ?_⟩
        cases k with
        | zero => simp at e'; rw [← e']; simpa using q
        | succ k =>
          have hk' : k + 1 < n' + 1 := hk
          exact h2 k z' (by omega) (by simpa using e')
theorem m_index (hu : X.A.units + 66 < cLine) : MtR X "list.index" (RVM X.K mIndex) := fun pins s σ H x vs v us Q I rx rv ⟨m, d, ds, Q0, hM, hx, hd, h, hQ⟩ => by
  obtain ⟨xs, e, h⟩ := optQ_un h
  obtain ⟨y, w', rfl, rfl, h1, h⟩ := d1Q_un hd h
  obtain ⟨⟨p1, p2⟩, h⟩ := h
  obtain ⟨n, e2, h⟩ := optQ_un h
  obtain ⟨a, ws, rfl, ha, hv⟩ := lisOf_dv hM hx e
  obtain ⟨⟨z, hz, hz2⟩, hno⟩ := idxD_spec e2
  have sl : SeqAt.shaped (.list (toPys xs)) = true := by
    have := shaped_of (d := .lis xs) (by simpa only [plain] using p2.1) (by simp only [dep]; have := p2.2; omega)
    simpa only [toPy] using this
  refine mt_indexD (by omega) pins s σ H _ _ v us Q I rx rv ⟨a, w', toPy y, toPys xs, n, toPy z, rfl, rfl, .lst ha (dps_of p2.1 hv), dp_of p1.1 h1, sl, shaped_of p1.1 p1.2, by rw [toPys_get, hz]; rfl,
    by rw [eqv_py _ _ (plains_get p2.1 hz) p1.1]; exact hz2, fun k z' hk hz' => ?_, fin0 hQ hM h (by simp only [DV])⟩
  rw [toPys_get] at hz'
  cases q : xs[k]? with
  | none => rw [q] at hz'; cases hz'
  | some c =>
    rw [q] at hz'
    cases hz'
    rw [eqv_py _ _ (plains_get p2.1 q) p1.1]
    exact hno k c hk q
def strsOf : List D → Option (List Str)
  | [] => some []
  | .str i :: ds => (strsOf ds).map (i :: ·)
  | _ :: _ => none
theorem strsOf_dv {K : PySem.W.Frag} {H : Hp} : ∀ {ds : List D} {vs : List V} {ns : List Str}, DVs K H ds vs → strsOf ds = some ns → vs = ns.map V.str
  | [], vs, ns, h, e => by cases e; rw [h.un0]; rfl
  | d :: ds, vs, ns, h, e => by
    obtain ⟨v, r, rfl, h1, h2⟩ := h.un
    cases d with
    | str i =>
      simp only [strsOf] at e
      cases q : strsOf ds with
      | none => rw [q] at e; cases e
      | some ms =>
        rw [q] at e
        cases e
        simp only [DV] at h1
        rw [h1, strsOf_dv h2 q]; rfl
    | _ => cases e
theorem strsOf_map : ∀ ns : List Str, strsOf (ns.map D.str) = some ns
  | [] => rfl
  | n :: ns => by simp only [List.map_cons, strsOf, strsOf_map ns, Option.map_some]
def mJoin : FM := fun x ds m Q => strQ x fun a => d1Q ds fun d => optQ ((seqOf m d).bind strsOf) fun ys => (ys.map (·.length)).sum + ys.length * a.length ≤ 16777216 ∧ Q (.str (Txt.join a ys)) m
theorem m_join : MtR X "str.join" (RVM X.K mJoin) := fun pins s σ H x vs v us Q I rx rv ⟨m, d, ds, Q0, hM, hx, hd, h, hQ⟩ => by
  obtain ⟨a, rfl, rfl, h⟩ := strQ_un hx h
  obtain ⟨y, w', rfl, rfl, h1, h⟩ := d1Q_un hd h
  obtain ⟨ys, e, h⟩ := optQ_un h
  cases q : seqOf m y with
  | none => rw [q] at e; cases e
  | some zs =>
    rw [q, Option.bind_some] at e
    obtain ⟨b, ws, rfl, hb, hv⟩ := seqOf_dv hM h1 q
    rw [strsOf_dv hv e] at hb
    exact mt_join pins s σ H _ _ v us Q I rx rv ⟨a, b, ys, rfl, rfl, hb, h.1, fin0 hQ hM h.2 (by simp only [DV])⟩
end
end L2.EV
set_option maxHeartbeats 1000000
/-! EV8: calls of defs and methods, instances made. -/
namespace L2.EV
open PySem PySem.Spec PyProof.Rows
/-- a def's promise over trees -/
abbrev SPEC := List D → Mem → QD → XD → Prop
def spOf (K : PySem.W.Frag) (n : Nat) (g : SPEC) : Sp := fun vs H Q E => vs.length = n ∧ ∃ ds m Q0 X0, MemOk K m H ∧ DVs K H ds vs ∧ g ds m Q0 X0 ∧ CQ K H Q0 Q ∧ CE K H X0 E
/-- the def at f keeps it -/
structure FnA (P : Program) (w : World) (K : PySem.W.Frag) (mg : Str → Option Value) (base : Heap) (k : Nat) (n : Nat) (g : SPEC) (dd : List D) (f : Addr) : Prop where
  ex : ∃ (fd : FuncData) (ps : List Str) (ds : List Value) (dvs : List V), FnOk P w K mg base (L2.CX P w) k f fd ps (spOf K n g) ∧ Binds K fd ps ds ∧ Vals dvs ds ∧ ∀ H, DVs K H dd dvs
  ar : ∀ ds m Q X, g ds m Q X → ds.length = n
abbrev FnX (X : Cx) := FnA X.prog X.w X.K X.mg X.base
theorem FnA.mono {P : Program} {w : World} {K : PySem.W.Frag} {mg : Str → Option Value} {base : Heap} {j k n : Nat} {g : SPEC} {dd : List D} {f : Addr} (F : FnA P w K mg base j n g dd f) (h : j ≤ k) : FnA P w K mg base k n g dd f := by
  obtain ⟨⟨fd, ps, ds, dvs, h1, h2, h3, h4⟩, ar⟩ := F
  exact ⟨⟨fd, ps, ds, dvs, h1.mono h, h2, h3, h4⟩, ar⟩
/-- a global def -/
structure FnG (P : Program) (w : World) (K : PySem.W.Frag) (mg : Str → Option Value) (base : Heap) (k n : Nat) (g : SPEC) (dd : List D) (x : Str) : Prop where
  a : FnA P w K mg base k n g dd (He.ga K x)
  m : mg x = some (.ref (He.ga K x))
  kp : PySem.W.keepIn K (.ref (He.ga K x)) = true
/-- a method -/
structure FnM (P : Program) (w : World) (K : PySem.W.Frag) (mg : Str → Option Value) (base : Heap) (k n : Nat) (g : SPEC) (dd : List D) (C m : Str) : Prop where
  a : FnA P w K mg base k n g dd (He.ma K (He.ga K C) m)
  cl : Cls K (He.ga K C)
  mt : Meth K (He.ga K C) m (He.ma K (He.ga K C) m)
/-- a class with its __init__ -/
structure FnC (P : Program) (w : World) (K : PySem.W.Frag) (mg : Str → Option Value) (base : Heap) (k n : Nat) (g : SPEC) (dd : List D) (C : Str) : Prop where
  a : FnA P w K mg base k n g dd (He.ma K (He.ga K C) "__init__")
  m : mg C = some (.ref (He.ga K C))
  mkr : Mk K (He.ga K C) (He.ma K (He.ga K C) "__init__")
def eCall (g : SPEC) (dd : List D) (as : EA) : EE := fun e m Q X => as e m (fun ds m1 => g (ds ++ dd) m1 Q X) X
section
variable {X : Cx} {W : WX} {k n : Nat} {g : SPEC} {dd : List D} {x C mth : Str} {p pos apos : Pos} {e o : Expr} {es : List Expr} {ro : EE} {as : EA}
theorem spOf_of {H : Hp} {m : Mem} {ds : List D} {vs : List V} {Q0 : QD} {X0 : XD} {Q : VK} {E : XK} (ar : ∀ ds m Q X, g ds m Q X → ds.length = n) (hM : MemOk X.K m H) (hd : DVs X.K H ds vs) (h : g ds m Q0 X0) (hQ : CQ X.K H Q0 Q) (hX : CE X.K H X0 E) : spOf X.K n g vs H Q E :=
  ⟨by rw [hd.length]; exact ar _ _ _ _ h, ds, m, Q0, X0, hM, hd, h, hQ, hX⟩
theorem ev_call (F : FnG X.prog X.w X.K X.mg X.base k n g dd x) (hr : Room k X.A) (tk : Takes X W) (ha : PA X (e :: es) (RA X.K W as)) (hg : Gl X x := by rfl)
    (hdb : (x == ("__debug__" : Str)) = false := by decide) (he : starEach (e :: es) X.env = (false, eval e X.env) :: starEach es X.env := by rfl) (hpl : (backTo pos (starEach es X.env)).any (·.1) = false := by rfl) :
    PE X (.Call (.Name x p) (e :: es) [] pos) (RE X.K W (eCall g dd as)) := by
  obtain ⟨⟨⟨fd, ps, ds, dvs, h1, h2, h3, h4⟩, ar⟩, hm, kp⟩ := F
  refine PEimp (pe_callSD h1 hr hg hm kp h2 h3 (fun σ => passAt tk σ) ha hdb he hpl) fun σ H Q ⟨e, m, Q0, X0, hE, hM, h, hQ, hX⟩ => ?_
  exact ⟨e, m, _, X0, hE, hM, h, fun ds' m1 H1 vs h1 k1 hM1 dv1 => spOf_of ar hM1 (dv1.append (h4 H1)) h1 (hQ.keep k1) (hX.keep k1), hX⟩
/-- a method, what is raised wished for at the caller's slots -/
def tMethS (C : Addr) (m : Str) (sp : Sp) (dvs : List V) (E : St → XK) (ta : TE) (t : TA) : TE := fun σ H Q => ta σ H fun x H1 => ∃ a dx fs, x = .ref a ∧ H1 a = some (.ins C dx fs) ∧ fs.lookup m = none ∧ t σ H1 fun vs H2 => sp (x :: (vs ++ dvs)) H2 Q (E σ)
theorem pe_methS {pl : Sem Bool} {C f : Addr} {fd : FuncData} {ps : List Str} {sp : Sp} {dvs : List V} {ds : List Value} {E : St → XK} {CX : CXT} {ta : TE} {t : TA} (he : PE X o ta) (c : Cls X.K C) (hm : Meth X.K C mth f) (F : FnOk X.prog X.w X.K X.mg X.base CX k f fd ps sp) (hr : Room k X.A) (hb : Binds X.K fd ps ds) (hd : Vals dvs ds)
    (hx : ∀ σ, PassesAt CX X σ (E σ)) (ha : PA X (e :: es) t)
    (hst : starEach (e :: es) X.env = (false, eval e X.env) :: starEach es X.env) (hpl : (backTo pos (starEach es X.env)).any (·.1) = false)
    (ht : eval (.Call (.Attribute o mth apos) (e :: es) [] pos) X.env = (do
      let ov ← eval o X.env
      standAt apos.atName
      let (f, first) ← holding [ov] (getMethod ov mth pl)
      callWith pos f first (backTo pos (starEach (e :: es) X.env)) (backToKw pos (keywordEach [] X.env)))) :
    PE X (.Call (.Attribute o mth apos) (e :: es) [] pos) (tMethS C mth sp dvs E ta t) := by
  refine ⟨fun pins s σ H Q I h => ?_⟩
  refine PySem.W.methodCall_KW (pl := pl) (thn (he.run pins s σ H _ I h) fun u s1 ⟨x, H1, I1, rx, a, dx, fs, ex, ea, l, q⟩ => ?_) ht
  subst ex
  obtain rfl : u = Value.ref a := rx
  refine getmeth_ok I1 ea c hm l ?_
  refine PySem.W.callWith_K (first := [.ref a]) (h₀ := X.base) I.ok.mod.kin hm.kp (thn (ha.run pos pins s1 σ H1 _ I1 q) fun us s2 ⟨vs, H2, I2, r, q2⟩ => ⟨I2.kIn, ?_⟩) hst hpl
  exact run_fnSD (us := .ref a :: us) (vs := .ref a :: vs) F hr hb hd (hx σ) I2 (.cons rfl r) q2
theorem pe_methS0 {pl : Sem Bool} {C f : Addr} {fd : FuncData} {ps : List Str} {sp : Sp} {dvs : List V} {ds : List Value} {E : St → XK} {CX : CXT} {ta : TE} (he : PE X o ta) (c : Cls X.K C) (hm : Meth X.K C mth f) (F : FnOk X.prog X.w X.K X.mg X.base CX k f fd ps sp) (hr : Room k X.A) (hb : Binds X.K fd ps ds) (hd : Vals dvs ds)
    (hx : ∀ σ, PassesAt CX X σ (E σ))
    (ht : eval (.Call (.Attribute o mth apos) [] [] pos) X.env = (do
      let ov ← eval o X.env
      standAt apos.atName
      let (f, first) ← holding [ov] (getMethod ov mth pl)
      callWith pos f first (backTo pos (starEach [] X.env)) (backToKw pos (keywordEach [] X.env)))) :
    PE X (.Call (.Attribute o mth apos) [] [] pos) (tMethS C mth sp dvs E ta tNil) := by
  refine ⟨fun pins s σ H Q I h => ?_⟩
  refine PySem.W.methodCall_KW (pl := pl) (thn (he.run pins s σ H _ I h) fun u s1 ⟨x, H1, I1, rx, a, dx, fs, ex, ea, l, q⟩ => ?_) ht
  subst ex
  obtain rfl : u = Value.ref a := rx
  refine getmeth_ok I1 ea c hm l ?_
  exact PySem.W.callWith_K0 (first := [.ref a]) I1.kIn hm.kp (run_fnSD (us := [.ref a]) (vs := [.ref a]) F hr hb hd (hx σ) I1 (.cons rfl .nil) q)
theorem lookup_KD_none {K : PySem.W.Frag} {H : Hp} (f : Str) : ∀ {fs : List (Str × D)} {vs : List (Str × V)}, KD K H fs vs → fs.lookup f = none → vs.lookup f = none
  | [], _, h, _ => by rw [show _ = [] from h]; rfl
  | p :: ps, _, ⟨v, r, e1, h1, h2⟩, e => by
    subst e1
    obtain ⟨g, x⟩ := p
    rw [List.lookup_cons] at e ⊢
    cases q : f == g with
    | true => rw [q] at e; cases e
    | false => rw [q] at e; exact lookup_KD_none f h2 e
/-- an instance of the class -/
def insQ (C : Str) (d : D) (m : Mem) (f : List (Str × D) → Prop) : Prop := match d with
  | .ref a => (match m a with
    | some (.ins C' fs) => C' = C ∧ f fs
    | _ => False)
  | _ => False
theorem insQ_ref {C : Str} {a : Addr} {m : Mem} {fs : List (Str × D)} {f : List (Str × D) → Prop} (h : m a = some (.ins C fs)) : insQ C (.ref a) m f = f fs := by
  simp [insQ, h]
theorem insQ_un {C : Str} {d : D} {m : Mem} {f : List (Str × D) → Prop} (h : insQ C d m f) : ∃ a fs, d = .ref a ∧ m a = some (.ins C fs) ∧ f fs := by
  cases d with
  | ref a =>
    simp only [insQ] at h
    cases q : m a with
    | none => rw [q] at h; exact h.elim
    | some o =>
      rw [q] at h
      cases o with
      | ins C' fs =>
        obtain ⟨rfl, h⟩ := h
        exact ⟨a, fs, rfl, q, h⟩
      | _ => exact h.elim
  | _ => exact h.elim
def eMeth (C mth : Str) (g : SPEC) (dd : List D) (o : EE) (as : EA) : EE := fun e m Q X => o e m (fun x m1 => insQ C x m1 fun fs => fs.lookup mth = none ∧ as e m1 (fun ds m2 => g (x :: (ds ++ dd)) m2 Q X) X) X
theorem meth_imp {f : Addr} {dvs : List V} (ar : ∀ ds m Q X, g ds m Q X → ds.length = n) (h4 : ∀ H, DVs X.K H dd dvs) {t : TA} (ht : ∀ σ H Q, RA X.K W as σ H Q → t σ H Q) {σ : St} {H : Hp} {Q : VK} (h : RE X.K W (eMeth C mth g dd ro as) σ H Q) :
    tMethS (He.ga X.K C) mth (spOf X.K n g) dvs (WE W) (RE X.K W ro) t σ H Q := by
  obtain ⟨e, m, Q0, X0, hE, hM, h, hQ, hX⟩ := h
  refine ⟨e, m, _, X0, hE, hM, h, fun d m1 H1 v h1 k1 hM1 dv1 => ?_, hX⟩
  obtain ⟨a, fs, rfl, ea, l, h1⟩ := insQ_un h1
  obtain ⟨dx, vs, hH, hk⟩ := hM1 a _ ea
  have dv1' := dv1
  simp only [DV] at dv1; subst dv1
  refine ⟨a, dx, vs, rfl, hH, lookup_KD_none mth hk l, ht _ _ _ ⟨e, m1, _, X0, hE.keep k1, hM1, h1, fun ds m2 H2 ws h2 k2 hM2 dv2 => ?_, hX.keep k1⟩⟩
  exact spOf_of ar hM2 (.cons (dv1'.keep k2) (dv2.append (h4 H2))) h2 (hQ.keep (k1.trans k2)) (hX.keep (k1.trans k2))
theorem ev_meth {pl : Sem Bool} (F : FnM X.prog X.w X.K X.mg X.base k n g dd C mth) (hr : Room k X.A) (tk : Takes X W) (ho : PE X o (RE X.K W ro)) (ha : PA X (e :: es) (RA X.K W as))
    (hst : starEach (e :: es) X.env = (false, eval e X.env) :: starEach es X.env := by rfl) (hpl : (backTo pos (starEach es X.env)).any (·.1) = false := by rfl)
    (ht : eval (.Call (.Attribute o mth apos) (e :: es) [] pos) X.env = (do
      let ov ← eval o X.env
      standAt apos.atName
      let (f, first) ← holding [ov] (getMethod ov mth pl)
      callWith pos f first (backTo pos (starEach (e :: es) X.env)) (backToKw pos (keywordEach [] X.env))) := by rfl) :
    PE X (.Call (.Attribute o mth apos) (e :: es) [] pos) (RE X.K W (eMeth C mth g dd ro as)) := by
  obtain ⟨⟨⟨fd, ps, ds, dvs, h1, h2, h3, h4⟩, ar⟩, hc, mt⟩ := F
  exact PEimp (pe_methS ho hc mt h1 hr h2 h3 (fun σ => passAt tk σ) ha hst hpl ht) fun σ H Q h => meth_imp (f := 0) ar h4 (fun _ _ _ z => z) h
theorem ev_meth0 {pl : Sem Bool} (F : FnM X.prog X.w X.K X.mg X.base k n g dd C mth) (hr : Room k X.A) (tk : Takes X W) (ho : PE X o (RE X.K W ro))
    (ht : eval (.Call (.Attribute o mth apos) [] [] pos) X.env = (do
      let ov ← eval o X.env
      standAt apos.atName
      let (f, first) ← holding [ov] (getMethod ov mth pl)
      callWith pos f first (backTo pos (starEach [] X.env)) (backToKw pos (keywordEach [] X.env))) := by rfl) :
    PE X (.Call (.Attribute o mth apos) [] [] pos) (RE X.K W (eMeth C mth g dd ro aNil)) := by
  obtain ⟨⟨⟨fd, ps, ds, dvs, h1, h2, h3, h4⟩, ar⟩, hc, mt⟩ := F
  exact PEimp (pe_methS0 ho hc mt h1 hr h2 h3 (fun σ => passAt tk σ) ht) fun σ H Q h => meth_imp (f := 0) ar h4 (fun _ H Q ⟨e, m, Q0, X0, hE, hM, h, hQ, _⟩ => hQ [] m H [] h (Keep.refl H) hM .nil) h
/-- C(e, ..) -/
def eMake (C : Str) (g : SPEC) (dd : List D) (as : EA) : EE := fun e m Q X => as e m (fun ds m1 => ∀ p, m1 p = none → g (.ref p :: (ds ++ dd)) (mup m1 p (.ins C [])) (fun v m2 => v = .non ∧ Q (.ref p) m2) X) X
theorem made_keep {K : PySem.W.Frag} {H : Hp} {x dx : Addr} {C : Addr} (hx : H x = none) (hd : H dx = none) : Keep K H (upd (upd H dx (.own x)) x (.ins C dx [])) :=
  (keep_upd (by rw [hd]; trivial)).trans (keep_upd (by
    by_cases e : x = dx
    · subst e; rw [upd_same]; trivial
    · rw [upd_ne e, hx]; trivial))
theorem made_mem {K : PySem.W.Frag} {H : Hp} {m : Mem} {x dx : Addr} {C : Str} (hM : MemOk K m H) (hx : H x = none) (hd : H dx = none) (ne : dx ≠ x) : MemOk K (mup m x (.ins C [])) (upd (upd H dx (.own x)) x (.ins (He.ga K C) dx [])) := by
  have h1 : MemOk K m (upd H dx (.own x)) := hM.new hd
  exact h1.upd (by rw [upd_ne (Ne.symm ne), hx]; trivial) ⟨dx, [], upd_same, rfl⟩
theorem run_makeS {CX : CXT} {f C : Addr} {fd : FuncData} {ps : List Str} {sp : Sp} {dvs : List V} {ds : List Value} {E : St → XK} {pins : List (Addr × Obj)} {σ : St} {H : Hp} {s : Shared} {Q : VK} {us : List Value} {vs : List V} (M : Mk X.K C f) (F : FnOk X.prog X.w X.K X.mg X.base CX k f fd ps sp) (hr : Room (k + 1) X.A) (hb : Binds X.K fd ps ds) (hd : Vals dvs ds)
    (hx : PassesAt CX X σ (E σ)) (I : Inv X pins σ H s) (r : Vals vs us)
    (h : ∀ x dx, H x = none → H dx = none → dx ≠ x → sp (.ref x :: (vs ++ dvs)) (upd (upd H dx (.own x)) x (.ins C dx [])) (fun v H2 => v = .non ∧ Q (.ref x) H2) (E σ)) :
    wpAny (model X.prog X.w) X.A (call (.ref C) us) (EP X pins σ Q) X.xe s := by
  have hq := h (s.heap.objs.size + 1) s.heap.objs.size (I.hok.fresh (Nat.le_succ _)) (I.hok.fresh (Nat.le_refl _)) (Nat.ne_of_lt (Nat.lt_succ_self _))
  have I2 := Inv.made (C := C) I
  have r2 : Vals (V.ref (s.heap.objs.size + 1) :: (vs ++ dvs)) (Value.ref (s.heap.objs.size + 1) :: (us ++ ds)) := .cons rfl (r.append hd)
  have hl : (Value.ref (s.heap.objs.size + 1) :: us ++ ds).length = ps.length := by
    have e := r2.length
    rw [F.len _ _ _ _ hq] at e
    exact e.symm
  refine wpAny_call (make_map (f := f) I.kIn M.makes M.init (beq_iff_eq.mp M.fn) (codeAny_mono (F.run _ X.stack _ _ ⟨Value.ref (s.heap.objs.size + 1) :: us, []⟩ (Value.ref (s.heap.objs.size + 1) :: (us ++ ds)) _ _ (E σ) (hr.make C us [])
    (I2.env0.make C us []) (hb _ (Value.ref (s.heap.objs.size + 1) :: us) I2.kIn hl) r2 hq) fun r s' hq' => ?_))
  cases r with
  | error e => exact hx pins _ _ e s' I2 hq'
  | ok fl =>
    cases fl with
    | ret u =>
      obtain ⟨v, H', I3, rv, ev, q3⟩ := I2.after hq'
      subst ev
      exact ⟨rv, ⟨V.ref (s.heap.objs.size + 1), H', I3, rfl, q3⟩⟩
    | next => exact False.elim hq'
    | brk => exact False.elim hq'
    | cont => exact False.elim hq'
theorem make_end {dvs : List V} (ar : ∀ ds m Q X, g ds m Q X → ds.length = n) (h4 : ∀ H, DVs X.K H dd dvs) {H : Hp} {m : Mem} {ds : List D} {vs : List V} {Q0 : QD} {X0 : XD} {Q : VK} {E : XK} (hM : MemOk X.K m H) (hd : DVs X.K H ds vs) (hQ : CQ X.K H Q0 Q) (hX : CE X.K H X0 E)
    (h : ∀ p, m p = none → g (.ref p :: (ds ++ dd)) (mup m p (.ins C [])) (fun v m2 => v = .non ∧ Q0 (.ref p) m2) X0) (x dx : Addr) (hx : H x = none) (hdx : H dx = none) (ne : dx ≠ x) :
    spOf X.K n g (.ref x :: (vs ++ dvs)) (upd (upd H dx (.own x)) x (.ins (He.ga X.K C) dx [])) (fun v H2 => v = .non ∧ Q (.ref x) H2) E := by
  have k := made_keep (K := X.K) (C := He.ga X.K C) hx hdx
  refine spOf_of ar (made_mem hM hx hdx ne) (.cons (by simp only [DV]) ((hd.keep k).append (h4 _))) (h x (hM.none hx)) (fun d m' H' v ⟨e, q⟩ k' hM' dv => ?_) (hX.keep k)
  subst e
  simp only [DV] at dv
  exact ⟨dv, hQ _ m' H' _ q (k.trans k') hM' (by simp only [DV])⟩
theorem ev_make (F : FnC X.prog X.w X.K X.mg X.base k n g dd C) (hr : Room (k + 1) X.A) (tk : Takes X W) (ha : PA X (e :: es) (RA X.K W as)) (hg : Gl X C := by rfl)
    (hdb : (C == ("__debug__" : Str)) = false := by decide) (he : starEach (e :: es) X.env = (false, eval e X.env) :: starEach es X.env := by rfl) (hpl : (backTo pos (starEach es X.env)).any (·.1) = false := by rfl) :
    PE X (.Call (.Name C p) (e :: es) [] pos) (RE X.K W (eMake C g dd as)) := by
  obtain ⟨⟨⟨fd, ps, ds, dvs, h1, h2, h3, h4⟩, ar⟩, hm, mk⟩ := F
  refine ⟨fun pins s σ H Q I ⟨e', m, Q0, X0, hE, hM, h, hQ, hX⟩ => ?_⟩
  refine wpAny_Call_Name_kw (ld_glob I hg hm ?_ hdb)
  refine PySem.W.callWith_K (h₀ := X.base) I.ok.mod.kin mk.kp (thn (ha.run pos pins s σ H (fun vs H1 => ∀ x dx, H1 x = none → H1 dx = none → dx ≠ x → spOf X.K n g (.ref x :: (vs ++ dvs)) (upd (upd H1 dx (.own x)) x (.ins (He.ga X.K C) dx [])) (fun v H2 => v = .non ∧ Q (.ref x) H2) (WE W σ)) I
    ⟨e', m, _, X0, hE, hM, h, fun ds' m1 H1 vs h1 k1 hM1 dv1 => make_end ar h4 hM1 dv1 (hQ.keep k1) (hX.keep k1) h1, hX⟩) fun us s1 ⟨vs, H1, I1, r, q⟩ => ⟨I1.kIn, ?_⟩) he hpl
  exact run_makeS mk h1 hr h2 h3 (passAt tk σ) I1 r q
theorem ev_make0 (F : FnC X.prog X.w X.K X.mg X.base k n g dd C) (hr : Room (k + 1) X.A) (tk : Takes X W) (hg : Gl X C := by rfl) (hdb : (C == ("__debug__" : Str)) = false := by decide) :
    PE X (.Call (.Name C p) [] [] pos) (RE X.K W (eMake C g dd aNil)) := by
  obtain ⟨⟨⟨fd, ps, ds, dvs, h1, h2, h3, h4⟩, ar⟩, hm, mk⟩ := F
  refine ⟨fun pins s σ H Q I ⟨e', m, Q0, X0, hE, hM, h, hQ, hX⟩ => ?_⟩
  refine wpAny_Call_Name_kw (ld_glob I hg hm ?_ hdb)
  exact PySem.W.callWith_K0 I.kIn mk.kp (run_makeS (us := []) (vs := []) mk h1 hr h2 h3 (passAt tk σ) I .nil (make_end ar h4 hM .nil hQ hX h))
/-- a local name that holds one of the defs told -/
abbrev LT := Str → Option SPEC
def eCallL (T : LT) (i : Nat) (as : EA) : EE := fun e m Q X => match e[i]? with
  | some (some (.glob x)) => optQ (T x) fun g => as e m (fun ds m1 => g ds m1 Q X) X
  | _ => False
theorem ev_callL {T : LT} (i : Nat) (hT : ∀ x g, T x = some g → ∃ n, FnG X.prog X.w X.K X.mg X.base k n g [] x) (hr : Room k X.A) (tk : Takes X W) (ha : PA X (e :: es) (RA X.K W as)) (hN : X.N[i]? = some x := by rfl) (hv : Vis X.env.scope x := by first | exact Or.inl rfl | exact Or.inr (Or.inl rfl) | exact Or.inr (Or.inr rfl))
    (hdb : (x == ("__debug__" : Str)) = false := by decide) (hcd : (x == ("__classdict__" : Str)) = false := by decide)
    (he : starEach (e :: es) X.env = (false, eval e X.env) :: starEach es X.env := by rfl) (hpl : (backTo pos (starEach es X.env)).any (·.1) = false := by rfl) : PE X (.Call (.Name x p) (e :: es) [] pos) (RE X.K W (eCallL T i as)) := by
  refine ⟨fun pins s σ H Q I ⟨e', m, Q0, X0, hE, hM, h, hQ, hX⟩ => ?_⟩
  simp only [eCallL] at h
  split at h
  · rename_i x' q
    obtain ⟨g, hg, h⟩ := optQ_un h
    obtain ⟨n, ⟨⟨fd, ps, ds, dvs, h1, h2, h3, h4⟩, ar⟩, hm, kp⟩ := hT x' g hg
    obtain ⟨v, hs, dv⟩ := hE.2 i _ q
    simp only [DV] at dv; subst dv
    have e0 : dvs = [] := (h4 H).un0
    subst e0
    refine wpAny_Call_Name_kw (thn ((pe_var (pos := p) hN hv hdb hcd).run pins s σ H (fun v H1 => v = .ref (He.ga X.K x') ∧ H1 = H) I ⟨_, hs, rfl, rfl⟩) fun u s1 ⟨v, H1, I1, r1, q1⟩ => ?_)
    obtain ⟨rfl, rfl⟩ := q1
    cases r1
    refine PySem.W.callWith_K (h₀ := X.base) I.ok.mod.kin kp (thn (ha.run pos pins s1 σ _ (fun vs H2 => spOf X.K n g vs H2 Q (WE W σ)) I1 ⟨e', m, _, X0, hE, hM, h, fun ds' m1 H1 vs h1 k1 hM1 dv1 => spOf_of ar hM1 dv1 h1 (hQ.keep k1) (hX.keep k1), hX⟩) fun us s2 ⟨vs, H2, I2, r, q⟩ => ⟨I2.kIn, ?_⟩) he hpl
    exact run_fnSD (E := WE W) h1 hr h2 h3 (passAt tk σ) I2 r (by rw [List.append_nil]; exact q)
  · exact h.elim
end
end L2.EV
set_option maxHeartbeats 1000000
/-! EV9: statements, loops. -/
namespace L2.EV
open PySem PySem.Spec PyProof.Rows
section
variable {X : Cx} {W : WX} {pos : Pos}
/-! ### small statements -/
def xs_ (Z : Zs) (e : Sl) : XD := fun c dx m => Z.ex c dx e m
def sNil : ES := fun e m Z => Z.nx e m
def sSeq (s t : ES) : ES := fun e m Z => s e m { Z with nx := fun e1 m1 => t e1 m1 Z }
def sExpr (r : EE) : ES := fun e m Z => r e m (fun _ m1 => Z.nx e m1) (xs_ Z e)
def sRet (r : EE) : ES := fun e m Z => r e m Z.rt (xs_ Z e)
def sRetN : ES := fun _ m Z => Z.rt .non m
def sIf (t : ET) (s u : ES) : ES := fun e m Z => t e m (fun k m1 => (k = true → s e m1 Z) ∧ (k = false → u e m1 Z)) (xs_ Z e)
def sBrk : ES := fun e m Z => Z.bk e m
def sCont : ES := fun e m Z => Z.ct e m
theorem CZ.xe {K : PySem.W.Frag} {H : Hp} {Z : Zs} {D : Ends} {e : Sl} {σ : St} (h : CZ K H W Z D) (hE : SlOk K H e σ) : CE K H (xs_ Z e) (WE W σ) := fun c dx m' H' q k hM => h.ex c dx e m' σ H' q k (hE.keep k) hM
theorem sv_nil : PSs X [] (RS X.K W sNil) := PSsimp pss_nil fun D σ H ⟨e, m, Z, hE, hM, h, hZ⟩ => hZ.nx e m σ H h (Keep.refl H) hE hM
theorem sv_seq {st : Stmt} {rest : List Stmt} {s t : ES} (h1 : PS X st (RS X.K W s)) (h2 : PSs X rest (RS X.K W t)) : PSs X (st :: rest) (RS X.K W (sSeq s t)) := PSsimp (pss_cons h1 h2) fun D σ H ⟨e, m, Z, hE, hM, h, hZ⟩ =>
  ⟨e, m, _, hE, hM, h, ⟨fun e1 m1 σ1 H1 h1 k1 hE1 hM1 => ⟨e1, m1, Z, hE1, hM1, h1, hZ.keep k1⟩, hZ.rt, hZ.bk, hZ.ct, hZ.ex⟩⟩
theorem sv_one {st : Stmt} {s : ES} (h1 : PS X st (RS X.K W s)) : PSs X [st] (RS X.K W s) := pss_one h1
theorem sv_pass : PS X (.Pass pos) (RS X.K W sNil) := PSimp ps_pass fun D σ H ⟨e, m, Z, hE, hM, h, hZ⟩ => hZ.nx e m σ H h (Keep.refl H) hE hM
theorem sv_brk : PS X (.Break pos) (RS X.K W sBrk) := PSimp ps_break fun D σ H ⟨e, m, Z, hE, hM, h, hZ⟩ => hZ.bk e m σ H h (Keep.refl H) hE hM
theorem sv_cont : PS X (.Continue pos) (RS X.K W sCont) := PSimp ps_continue fun D σ H ⟨e, m, Z, hE, hM, h, hZ⟩ => hZ.ct e m σ H h (Keep.refl H) hE hM
theorem sv_expr {a : Expr} {r : EE} (ha : PE X a (RE X.K W r)) (hs : swapsWith a none pos.line X.env = pure false := by rfl) : PS X (.Expr a pos) (RS X.K W (sExpr r)) := PSimp (ps_expr ha hs) fun D σ H ⟨e, m, Z, hE, hM, h, hZ⟩ =>
  ⟨e, m, _, _, hE, hM, h, fun d m1 H1 v h1 k1 hM1 _ => hZ.nx e m1 σ H1 h1 k1 (hE.keep k1) hM1, hZ.xe hE⟩
theorem sv_ret {a : Expr} {r : EE} (ha : PE X a (RE X.K W r)) : PS X (.Return (some a) pos) (RS X.K W (sRet r)) := PSimp (ps_ret ha) fun D σ H ⟨e, m, Z, hE, hM, h, hZ⟩ =>
  ⟨e, m, _, _, hE, hM, h, fun d m1 H1 v h1 k1 hM1 dv => hZ.rt d m1 H1 v h1 k1 hM1 dv, hZ.xe hE⟩
theorem sv_retN : PS X (.Return none pos) (RS X.K W sRetN) := PSimp ps_retN fun D σ H ⟨e, m, Z, hE, hM, h, hZ⟩ => hZ.rt _ m H _ h (Keep.refl H) hM (by simp only [DV])
theorem sv_if {c : Expr} {a b : List Stmt} {t : ET} {s u : ES} (hc : PT X c (RT X.K W t)) (ha : PSs X a (RS X.K W s)) (hb : PSs X b (RS X.K W u)) : PS X (.If c a b pos) (RS X.K W (sIf t s u)) := PSimp (ps_if hc ha hb) fun D σ H ⟨e, m, Z, hE, hM, h, hZ⟩ =>
  ⟨e, m, _, _, hE, hM, h, fun k m1 H1 h1 k1 hM1 => if2 (K := X.K) h1 (fun h1 => ⟨e, m1, Z, hE.keep k1, hM1, h1, hZ.keep k1⟩) (fun h1 => ⟨e, m1, Z, hE.keep k1, hM1, h1, hZ.keep k1⟩), hZ.xe hE⟩
/-! ### targets -/
abbrev EG := D → Sl → Mem → (Sl → Mem → Prop) → Prop
def RG (K : PySem.W.Frag) (g : EG) : TG := fun v σ H Q => ∃ d e m Q0, SlOk K H e σ ∧ MemOk K m H ∧ DV K H d v ∧ g d e m Q0 ∧ ∀ e' m' σ' H', Q0 e' m' → Keep K H H' → SlOk K H' e' σ' → MemOk K m' H' → Q σ' H'
abbrev EGs := List D → Sl → Mem → (Sl → Mem → Prop) → Prop
def RGs (K : PySem.W.Frag) (g : EGs) : TGs := fun vs σ H Q => ∃ ds e m Q0, SlOk K H e σ ∧ MemOk K m H ∧ DVs K H ds vs ∧ g ds e m Q0 ∧ ∀ e' m' σ' H', Q0 e' m' → Keep K H H' → SlOk K H' e' σ' → MemOk K m' H' → Q σ' H'
theorem PGimp {tg : Expr} {t t' : TG} (h : PG X tg t) (k : ∀ v σ H Q, t' v σ H Q → t v σ H Q) : PG X tg t' := ⟨fun pins s σ H v u Q I r q => h.run pins s σ H v u Q I r (k _ _ _ _ q)⟩
theorem PGsimp {tg : List Expr} {t t' : TGs} (h : PGs X tg t) (k : ∀ v σ H Q, t' v σ H Q → t v σ H Q) : PGs X tg t' := ⟨fun pins s σ H v u Q I r q => h.run pins s σ H v u Q I r (k _ _ _ _ q)⟩
def gN (i : Nat) : EG := fun d e m Q => Q (e.set i (some d)) m
def gsNil : EGs := fun ds e m Q => match ds with
  | [] => Q e m
  | _ => False
def gsCons (g : EG) (r : EGs) : EGs := fun ds e m Q => match ds with
  | d :: ds => g d e m fun e1 m1 => r ds e1 m1 Q
  | [] => False
def gT (n : Nat) (g : EGs) : EG := fun d e m Q => match d with
  | .tup ds => ds.length = n ∧ g ds e m Q
  | .ct ds => ds.length = n ∧ g ds e m Q
  | _ => False
theorem gv_name (i : Nat) {x : Str} (hN : X.N.Nodup) (hx : Loc X.env.scope x := by first | exact .inl rfl | exact .inr rfl) (hi : X.N[i]? = some x := by rfl) (hf : X.fn x = true ∨ X.env.scope.names.lookup x = some .local := by first | exact .inl rfl | exact .inr rfl | assumption) : PG X (.Name x pos) (RG X.K (gN i)) :=
  PGimp (pg_name hN hi hx hf) fun v σ H Q ⟨d, e, m, Q0, hE, hM, hd, h, hQ⟩ => hQ _ m _ H h (Keep.refl H) (hE.set i hd) hM
theorem gv_nil : PGs X [] (RGs X.K gsNil) := PGsimp pgs_nil fun v σ H Q ⟨ds, e, m, Q0, hE, hM, hd, h, hQ⟩ => by
  cases ds with
  | nil => exact ⟨hd.un0, hQ e m σ H h (Keep.refl H) hE hM⟩
  | cons _ _ => exact h.elim
theorem gv_cons {a : Expr} {es : List Expr} {g : EG} {r : EGs} (h1 : PG X a (RG X.K g)) (h2 : PGs X es (RGs X.K r)) (hs : (assignEach (a :: es) X.env).map (·.2) = assign a X.env :: (assignEach es X.env).map (·.2) := by rfl) : PGs X (a :: es) (RGs X.K (gsCons g r)) :=
  PGsimp (pgs_cons h1 h2 hs) fun v σ H Q ⟨ds, e, m, Q0, hE, hM, hd, h, hQ⟩ => by
    cases ds with
    | nil => exact h.elim
    | cons d ds =>
      obtain ⟨v, vr, rfl, h3, h4⟩ := hd.un
      exact ⟨v, vr, rfl, d, e, m, _, hE, hM, h3, h, fun e1 m1 σ1 H1 q1 k1 hE1 hM1 => ⟨ds, e1, m1, Q0, hE1, hM1, h4.keep k1, q1, fun e2 m2 σ2 H2 q2 k2 hE2 hM2 => hQ e2 m2 σ2 H2 q2 (k1.trans k2) hE2 hM2⟩⟩
theorem gv_tup {es : List Expr} {k n : Nat} {g : EGs} (hc : X.calm = true) (h : PGs X es (RGs X.K g)) (hn : (assignEach es X.env).length = n := by rfl) (hst : (assignEach es X.env).findIdx? (·.1) = none := by rfl) : PG X (.Tuple es k pos) (RG X.K (gT n g)) :=
  PGimp (pg_tup hc h hn hst) fun v σ H Q ⟨d, e, m, Q0, hE, hM, hd, h, hQ⟩ => by
    have go : ∀ {ds : List D}, tupOf d = some ds → ds.length = n ∧ g ds e m Q0 → ∃ a xs, v = .ref a ∧ SqT X.K H a xs ∧ xs.length = n ∧ RGs X.K g xs σ H Q := fun {ds} e1 ⟨h1, h2⟩ => by
      obtain ⟨a, vs, rfl, ha, hv⟩ := tupOf_dv hd e1
      exact ⟨a, vs, rfl, ha, by rw [hv.length]; exact h1, ds, e, m, Q0, hE, hM, hv, h2, hQ⟩
    cases d with
    | tup ds => exact go rfl h
    | ct ds => exact go rfl h
    | _ => exact h.elim
def sAsg (g : EG) (r : EE) : ES := fun e m Z => r e m (fun d m1 => g d e m1 Z.nx) (xs_ Z e)
theorem sv_asg {tg a : Expr} {g : EG} {r : EE} (ha : PE X a (RE X.K W r)) (hg : PG X tg (RG X.K g)) (hs : swapsWithSole [tg] a pos.line X.env = pure false := by rfl) (hw : swappedStores [tg] a X.env = pure none := by rfl)
    (h1 : (assignEach [tg] X.env).map (·.2) = [assign tg X.env] := by rfl) : PS X (.Assign [tg] a pos) (RS X.K W (sAsg g r)) := PSimp (ps_asg ha hg hs hw h1) fun D σ H ⟨e, m, Z, hE, hM, h, hZ⟩ =>
  ⟨e, m, _, _, hE, hM, h, fun d m1 H1 v h1 k1 hM1 dv => ⟨d, e, m1, Z.nx, hE.keep k1, hM1, dv, h1, fun e2 m2 σ2 H2 q2 k2 hE2 hM2 => hZ.nx e2 m2 σ2 H2 q2 (k1.trans k2) hE2 hM2⟩, hZ.xe hE⟩
theorem sv_set (i : Nat) {x : Str} {a : Expr} {r : EE} {pos' : Pos} (hN : X.N.Nodup) (ha : PE X a (RE X.K W r)) (hx : Loc X.env.scope x := by first | exact .inl rfl | exact .inr rfl) (hi : X.N[i]? = some x := by rfl) (hs : swapsWith a (some (.Name x pos')) pos.line X.env = pure false := by rfl)
    (hf : X.fn x = true ∨ X.env.scope.names.lookup x = some .local := by first | exact .inl rfl | exact .inr rfl | assumption) : PS X (.Assign [.Name x pos'] a pos) (RS X.K W (sAsg (gN i) r)) := PSimp (ps_set hN hi hx ha hs hf) fun D σ H ⟨e, m, Z, hE, hM, h, hZ⟩ =>
  ⟨e, m, _, _, hE, hM, h, fun d m1 H1 v h1 k1 hM1 dv => hZ.nx _ m1 _ H1 h1 k1 ((hE.keep k1).set i dv) hM1, hZ.xe hE⟩
/-! ### o[i] = v on a list, a dict; o.f = v; op= -/
def putD {κ : Type} [DecidableEq κ] (kvs : List (κ × D)) (k : κ) (d : D) : List (κ × D) :=
  if (kvs.any fun kv => decide (kv.1 = k)) = true then kvs.map (fun kv => if kv.1 = k then (kv.1, d) else kv) else kvs ++ [(k, d)]
theorem KD.any {κ : Type} [DecidableEq κ] {K : PySem.W.Frag} {H : Hp} (k : κ) : ∀ {kvs : List (κ × D)} {vs : List (κ × V)}, KD K H kvs vs → (vs.any fun kv => decide (kv.1 = k)) = (kvs.any fun kv => decide (kv.1 = k))
  | [], _, h => by rw [show _ = [] from h]; rfl
  | p :: ps, _, ⟨v, r, e, _, h2⟩ => by subst e; rw [List.any_cons, List.any_cons, KD.any k h2]
theorem KD.length {κ : Type} {K : PySem.W.Frag} {H : Hp} : ∀ {kvs : List (κ × D)} {vs : List (κ × V)}, KD K H kvs vs → vs.length = kvs.length
  | [], _, h => by rw [show _ = [] from h]; rfl
  | p :: ps, _, ⟨v, r, e, _, h2⟩ => by subst e; rw [List.length_cons, List.length_cons, KD.length h2]
theorem KD.append {κ : Type} {K : PySem.W.Frag} {H : Hp} : ∀ {kvs ls : List (κ × D)} {vs ws : List (κ × V)}, KD K H kvs vs → KD K H ls ws → KD K H (kvs ++ ls) (vs ++ ws)
  | [], _, _, _, h, t => by rw [show _ = [] from h]; exact t
  | p :: ps, _, _, _, ⟨v, r, e, h1, h2⟩, t => by subst e; exact ⟨v, _, rfl, h1, KD.append h2 t⟩
theorem KD.put {κ : Type} [DecidableEq κ] {K : PySem.W.Frag} {H : Hp} {k : κ} {d : D} {v : V} (hd : DV K H d v) {kvs : List (κ × D)} {vs : List (κ × V)} (h : KD K H kvs vs) : KD K H (putD kvs k d) (putK vs k v) := by
  unfold putD putK
  rw [KD.any k h]
  split
  · have go : ∀ {kvs : List (κ × D)} {vs : List (κ × V)}, KD K H kvs vs → KD K H (kvs.map fun kv => if kv.1 = k then (kv.1, d) else kv) (vs.map fun kv => if kv.1 = k then (kv.1, v) else kv) := by
      intro kvs
      induction kvs with
      | nil => intro vs h; rw [show vs = [] from h]; exact rfl
      | cons p ps ih =>
        intro vs h
        obtain ⟨v', r, e, h1, h2⟩ := h
        subst e
        rw [List.map_cons, List.map_cons]
        by_cases q : p.1 = k
        · rw [if_pos q, if_pos q]
          exact ⟨v, _, rfl, hd, ih h2⟩
        · rw [if_neg q, if_neg q]
          exact ⟨v', _, rfl, h1, ih h2⟩
    exact go h
  · exact h.append ⟨v, [], rfl, hd, rfl⟩
/-- the memory behind a change of a -/
theorem finU {K : PySem.W.Frag} {H : Hp} {m : Mem} {P : Mem → Prop} {a : Addr} {o o' : HO} {u : MO} {R : Hp → Prop} (hM : MemOk K m H) (ha : H a = some o) (l : Loose (some o)) (h : P (mup m a u)) (n : ∀ H', Keep K H H' → H' a = some o' → MOk K H' a u) (r : ∀ m' H', P m' → Keep K H H' → MemOk K m' H' → R H') : R (upd H a o') := by
  have l' : Loose (H a) := by rw [ha]; exact l
  have k : Keep K H (upd H a o') := keep_upd l'
  exact r _ _ h k (hM.upd l' (n _ k upd_same))
def dSetIx (x y d : D) (m : Mem) (Q : Mem → Prop) : Prop := match x with
  | .ref a => (match m a with
    | some (.lst xs) => intQ y fun i => optQ (ixN xs.length i) fun j => Q (mup m a (.lst (xs.set j d)))
    | some (.dK kvs) => optQ (keyOf y) fun k => kvs.length < sizeLine ∧ Q (mup m a (.dK (putD kvs k d)))
    | some (.dT kvs) => optQ (keysOf y) fun k => kvs.length < sizeLine ∧ Q (mup m a (.dT (putD kvs k d)))
    | _ => False)
  | _ => False
def sSetIx (o i r : EE) : ES := fun e m Z => r e m (fun d m1 => o e m1 (fun x m2 => i e m2 (fun y m3 => dSetIx x y d m3 (fun m4 => Z.nx e m4)) (xs_ Z e)) (xs_ Z e)) (xs_ Z e)
theorem PSor {st : Stmt} {t t' : TS} (h : PS X st t) (h' : PS X st t') : PS X st (fun D σ H => t D σ H ∨ t' D σ H) := ⟨fun pins s σ H D I q => q.elim (h.run pins s σ H D I) (h'.run pins s σ H D I)⟩
/-- a store by values -/
theorem put_pset (hu : X.A.units + 1 < cLine) : PSet X (fun o i v H Q => ∃ m d1 d2 d3 P, MemOk X.K m H ∧ DV X.K H d1 o ∧ DV X.K H d2 i ∧ DV X.K H d3 v ∧ dSetIx d1 d2 d3 m P ∧ ∀ m' H', P m' → Keep X.K H H' → MemOk X.K m' H' → Q H') := by
  intro pins s σ H o i v ov iv u Q I ro ri rv ⟨m, d1, d2, d3, P, hM, h1, h2, h3, h, hQ⟩
  cases d1 with
  | ref a =>
    simp only [dSetIx] at h
    simp only [DV] at h1; subst h1
    cases e : m a with
    | none => rw [e] at h; exact h.elim
    | some ob =>
      rw [e] at h
      cases ob with
      | lst xs =>
        obtain ⟨vs, ha, hv⟩ := hM a _ e
        obtain ⟨j, rfl, rfl, h⟩ := intQ_un h2 h
        obtain ⟨n, hn, h⟩ := optQ_un h
        exact set_list pins s σ H _ _ v ov iv u Q I ro ri rv ⟨a, vs, j, n, rfl, rfl, ha, by rw [hv.length]; exact hn, finU hM ha trivial h (fun H' k q => ⟨_, q, (hv.keep k).set (h3.keep k) n⟩) hQ⟩
      | dK kvs =>
        obtain ⟨vs, ha, hv⟩ := hM a _ e
        obtain ⟨k, hk, hl, h⟩ := optQ_un h
        have hv2 := keyOf_dv h2 hk
        subst hv2
        cases ro
        exact d_setItem hu I (DPut.k (k := k) ha (by rw [hv.length]; exact hl)) ri rv fun s' I' => ⟨_, I', finU hM ha trivial h (fun H' k q => ⟨_, q, (hv.keep k).put (h3.keep k)⟩) hQ⟩
      | dT kvs =>
        obtain ⟨vs, ha, hv⟩ := hM a _ e
        obtain ⟨k, hk, hl, hz⟩ := optQ_un h
        clear h
        cases d2 with
        | tup ds =>
          simp only [DV] at h2
          obtain ⟨b, ws, rfl, hb, hd⟩ := h2
          have hv2 := keys_dv hd hk
          subst hv2
          cases ro
          exact d_setItem hu I (DPut.t (k := k) ha hb (by rw [hv.length]; exact hl)) ri rv fun s' I' => ⟨_, I', finU (u := .dT (putD kvs k d3)) hM ha trivial hz (fun H' k q => ⟨_, q, (hv.keep k).put (h3.keep k)⟩) hQ⟩
        | _ => cases hk
      | _ => exact h.elim
  | _ => exact h.elim
theorem sv_setix {o i a : Expr} {ro ri r : EE} {pos' : Pos} (hu : X.A.units + 1 < cLine) (ho : PE X o (RE X.K W ro)) (hi : PE X i (RE X.K W ri)) (ha : PE X a (RE X.K W r))
    (hg : ∀ v, assign (.Subscript o i pos') X.env v = (do
      let ov ← holding [v] (eval o X.env)
      let iv ← holding [v, ov] (eval i X.env)
      standAt pos'
      holding [v, ov, iv] (setItem ov iv v)
      release [v, ov, iv] []) := by intro _; rfl)
    (hs : swapsWithSole [.Subscript o i pos'] a pos.line X.env = pure false := by rfl) (hw : swappedStores [.Subscript o i pos'] a X.env = pure none := by rfl)
    (h1 : (assignEach [.Subscript o i pos'] X.env).map (·.2) = [assign (.Subscript o i pos') X.env] := by rfl) : PS X (.Assign [.Subscript o i pos'] a pos) (RS X.K W (sSetIx ro ri r)) := PSimp (ps_asg ha (pg_sub ho hi (put_pset hu) hg) hs hw h1) fun D σ H ⟨e, m, Z, hE, hM, h, hZ⟩ =>
  ⟨e, m, _, _, hE, hM, h, fun d m1 H1 v h1 k1 hM1 dv => ⟨e, m1, _, _, hE.keep k1, hM1, h1, fun x m2 H2 xv h2 k2 hM2 dx => ⟨e, m2, _, _, (hE.keep k1).keep k2, hM2, h2, fun y m3 H3 yv h3 k3 hM3 dy =>
    ⟨m3, x, y, d, _, hM3, dx.keep k3, dy, (dv.keep k2).keep k3, h3, fun m4 H4 q4 k4 hM4 => hZ.nx e m4 σ H4 q4 (k1.trans (k2.trans (k3.trans k4))) (hE.keep (k1.trans (k2.trans (k3.trans k4)))) hM4⟩, ((hZ.xe hE).keep k1).keep k2⟩, (hZ.xe hE).keep k1⟩, hZ.xe hE⟩
/-- a field stored -/
def putFD (f : Str) (d : D) : List (Str × D) → List (Str × D)
  | [] => [(f, d)]
  | (g, x) :: fs => if g = f then (g, d) :: fs else (g, x) :: putFD f d fs
theorem putFD_dv {K : PySem.W.Frag} {H : Hp} {f : Str} {d : D} {v : V} (hd : DV K H d v) : ∀ {fs : List (Str × D)} {vs : List (Str × V)}, KD K H fs vs → KD K H (putFD f d fs) (putF f v vs)
  | [], _, h => by rw [show _ = [] from h]; exact ⟨v, [], rfl, hd, rfl⟩
  | (g, x) :: fs, _, ⟨w', r, e, h1, h2⟩ => by
    subst e
    simp only [putFD]
    show KD K H _ (if g = f then (g, v) :: r else (g, w') :: putF f v r)
    by_cases q : g = f
    · rw [if_pos q, if_pos q]; exact ⟨v, r, rfl, hd, h2⟩
    · rw [if_neg q, if_neg q]; exact ⟨w', _, rfl, h1, putFD_dv hd h2⟩
def fldQ (F : FTab) (f : Str) (x : D) (m : Mem) (k : Addr → Str → List (Str × D) → Prop) : Prop := match x with
  | .ref a => (match m a with
    | some (.ins C fs) => f ∈ F C ∧ k a C fs
    | _ => False)
  | _ => False
theorem fldQ_ref {F : FTab} {f C : Str} {a : Addr} {m : Mem} {fs : List (Str × D)} {k : Addr → Str → List (Str × D) → Prop} (h : m a = some (.ins C fs)) : fldQ F f (.ref a) m k = (f ∈ F C ∧ k a C fs) := by simp only [fldQ, h]
theorem fldQ_un {F : FTab} {f : Str} {x : D} {m : Mem} {k : Addr → Str → List (Str × D) → Prop} (h : fldQ F f x m k) : ∃ a C fs, x = .ref a ∧ m a = some (.ins C fs) ∧ f ∈ F C ∧ k a C fs := by
  cases x with
  | ref a =>
    simp only [fldQ] at h
    cases q : m a with
    | none => rw [q] at h; exact h.elim
    | some o =>
      rw [q] at h
      cases o with
      | ins C fs => exact ⟨a, C, fs, rfl, q, h.1, h.2⟩
      | _ => exact h.elim
  | _ => exact h.elim
def sSetF (F : FTab) (f : Str) (o r : EE) : ES := fun e m Z => r e m (fun d m1 => o e m1 (fun x m2 => fldQ F f x m2 fun a C fs => fs.length < 1000 ∧ Z.nx e (mup m2 a (.ins C (putFD f d fs)))) (xs_ Z e)) (xs_ Z e)
theorem sv_setf {F : FTab} {f : Str} {o a : Expr} {ro r : EE} {pos' : Pos} (hF : FldOk X F) (ho : PE X o (RE X.K W ro)) (ha : PE X a (RE X.K W r)) (hs : swapsWith a (some (.Attribute o f pos')) pos.line X.env = pure false := by rfl) : PS X (.Assign [.Attribute o f pos'] a pos) (RS X.K W (sSetF F f ro r)) :=
  PSimp (ps_fld ho ha hs) fun D σ H ⟨e, m, Z, hE, hM, h, hZ⟩ => ⟨e, m, _, _, hE, hM, h, fun d m1 H1 v h1 k1 hM1 dv => ⟨e, m1, _, _, hE.keep k1, hM1, h1, fun x m2 H2 xv h2 k2 hM2 dx => by
    obtain ⟨a, C, fs, rfl, q, hf, hl, h2⟩ := fldQ_un h2
    obtain ⟨dd, vs, hH, hk⟩ := hM2 a _ q
    simp only [DV] at dx; subst dx
    refine ⟨a, _, dd, vs, rfl, hH, (hF C f hf).1, (hF C f hf).2, by rw [hk.length]; exact hl, ?_⟩
    exact finU (P := fun m' => Z.nx e m') hM2 hH trivial h2 (fun H' k q => ⟨dd, _, q, putFD_dv ((dv.keep k2).keep k) (hk.keep k)⟩) fun m' H' q k hM' => hZ.nx e m' σ H' q (k1.trans (k2.trans k)) (hE.keep (k1.trans (k2.trans k))) hM', (hZ.xe hE).keep k1⟩, hZ.xe hE⟩
/-- op= by values -/
def dIAdd : F2 := fun x y m Q => match x, y with
  | .int i, .int j => Q (.int (i + j)) m
  | .str i, .str j => i.length + j.length ≤ sizeLine ∧ Q (.str (i ++ j)) m
  | _, _ => False
theorem o_iadd : OpR X (inplaceOp .Add) (RV2 X.K dIAdd) := fun pins s σ H x y v u Q I rx ry ⟨m, d1, d2, Q0, hM, h1, h2, h, hQ⟩ => by
  cases d1 <;> cases d2 <;> first
    | exact h.elim
    | (simp only [DV] at h1 h2; subst h1 h2
       first
         | exact iop_add pins s σ H _ _ v u Q I rx ry ⟨_, _, rfl, rfl, fin0 hQ hM h (by simp only [DV])⟩
         | exact iop_add_str pins s σ H _ _ v u Q I rx ry ⟨_, _, rfl, rfl, h.1, fin0 hQ hM h.2 (by simp only [DV])⟩)
theorem o_isub : OpR X (inplaceOp .Sub) (RV2 X.K dSub) := fun pins s σ H x y v u Q I rx ry ⟨m, d1, d2, Q0, hM, h1, h2, h, hQ⟩ => by
  cases d1 <;> cases d2 <;> first
    | exact h.elim
    | (simp only [DV] at h1 h2; subst h1 h2
       exact iop_sub pins s σ H _ _ v u Q I rx ry ⟨_, _, rfl, rfl, fin0 hQ hM h (by simp only [DV])⟩)
def sAug (i : Nat) (f : F2) (r : EE) : ES := fun e m Z => (match e[i]? with
  | some (some x) => r e m (fun y m1 => f x y m1 (fun z m2 => Z.nx (e.set i (some z)) m2)) (xs_ Z e)
  | _ => False)
theorem sv_aug (i : Nat) {x : Str} {a : Expr} {op : Operator} {f : F2} {r : EE} {pos' : Pos} (ho : OpR X (inplaceOp op) (RV2 X.K f)) (hN : X.N.Nodup) (ha : PE X a (RE X.K W r)) (hx : Loc X.env.scope x := by first | exact .inl rfl | exact .inr rfl) (hi : X.N[i]? = some x := by rfl)
    (hf : X.fn x = true ∨ X.env.scope.names.lookup x = some .local := by first | exact .inl rfl | exact .inr rfl | assumption) : PS X (.AugAssign (.Name x pos') op a pos) (RS X.K W (sAug i f r)) := PSimp (ps_aug (ti := RV2 X.K f) hN hi hx ha ho hf) fun D σ H ⟨e, m, Z, hE, hM, h, hZ⟩ => by
  simp only [sAug] at h
  split at h
  · rename_i x0 q
    obtain ⟨v0, s0, dv0⟩ := hE.2 i _ q
    exact ⟨v0, s0, e, m, _, _, hE, hM, h, fun y m1 H1 yv h1 k1 hM1 dy => ⟨m1, x0, y, _, hM1, dv0.keep k1, dy, h1, fun z m2 H2 zv h2 k2 hM2 dz => hZ.nx _ m2 _ H2 h2 (k1.trans k2) ((hE.keep (k1.trans k2)).set i dz) hM2⟩, hZ.xe hE⟩
  · exact h.elim
def sAugF (F : FTab) (f : Str) (op : F2) (o r : EE) : ES := fun e m Z => o e m (fun x m1 => fldQ F f x m1 fun a C fs => optQ (fs.lookup f) fun d => r e m1 (fun y m2 => op d y m2 (fun z m3 => fldQ F f (.ref a) m3 fun _ C' fs' => C' = C ∧ fs'.length < 1000 ∧ Z.nx e (mup m3 a (.ins C (putFD f z fs'))))) (xs_ Z e)) (xs_ Z e)
theorem sv_augf {F : FTab} {f : Str} {o a : Expr} {op : Operator} {g : F2} {ro r : EE} {tpos : Pos} (hF : FldOk X F) (hop : OpR X (inplaceOp op) (RV2 X.K g)) (ho : PE X o (RE X.K W ro)) (ha : PE X a (RE X.K W r)) : PS X (.AugAssign (.Attribute o f tpos) op a pos) (RS X.K W (sAugF F f g ro r)) :=
  PSimp (ps_fldaug (rd := RV2 X.K g) ho ha hop) fun D σ H ⟨e, m, Z, hE, hM, h, hZ⟩ => ⟨e, m, _, _, hE, hM, h, fun x m1 H1 xv h1 k1 hM1 dx => by
    obtain ⟨a, C, fs, rfl, q, hf, h1⟩ := fldQ_un h1
    obtain ⟨d0, l0, h1⟩ := optQ_un h1
    obtain ⟨dd, vs, hH, hk⟩ := hM1 a _ q
    obtain ⟨v0, lv, dv0⟩ := lookup_KD f hk l0
    simp only [DV] at dx; subst dx
    refine ⟨a, _, dd, vs, v0, rfl, hH, (hF C f hf).1, (hF C f hf).2, lv, e, m1, _, _, hE.keep k1, hM1, h1, fun y m2 H2 yv h2 k2 hM2 dy => ⟨m2, d0, y, _, hM2, dv0.keep k2, dy, h2, fun z m3 H3 zv h3 k3 hM3 dz => ?_⟩, (hZ.xe hE).keep k1⟩
    obtain ⟨a', C', fs', ea, q3, _, eC, hl, h3⟩ := fldQ_un h3
    cases ea
    subst eC
    obtain ⟨dd', vs', hH', hk'⟩ := hM3 a _ q3
    refine ⟨dd', vs', hH', by rw [hk'.length]; exact hl, ?_⟩
    exact finU (P := fun m' => Z.nx e m') hM3 hH' trivial h3 (fun H' k q => ⟨dd', _, q, putFD_dv (dz.keep k) (hk'.keep k)⟩) fun m' H' q k hM' => hZ.nx e m' σ H' q (k1.trans (k2.trans (k3.trans k))) (hE.keep (k1.trans (k2.trans (k3.trans k)))) hM', hZ.xe hE⟩

/-! ### while -/
def whileN (t : ET) (b : ES) : Nat → ES
  | 0 => fun _ _ _ => False
  | n + 1 => fun e m Z => t e m (fun k m1 => (k = true → b e m1 { nx := fun e2 m2 => ∃ m3, Sub m3 m2 ∧ whileN t b n e2 m3 Z, ct := fun e2 m2 => ∃ m3, Sub m3 m2 ∧ whileN t b n e2 m3 Z, bk := Z.nx, rt := Z.rt, ex := Z.ex }) ∧ (k = false → Z.nx e m1)) (xs_ Z e)
def sWhile (t : ET) (b : ES) : ES := fun e m Z => ∃ n, whileN t b n e m Z
theorem sv_while {c : Expr} {body : List Stmt} {t : ET} {b : ES} (hp : PassesOwn (model X.prog X.w) X.A X.env X.xe) (hc : PT X c (RT X.K W t)) (hb : PSs X body (RS X.K W b)) : PS X (.While c body [] pos) (RS X.K W (sWhile t b)) :=
  PSimp (ps_while hp hc hb) fun D σ H ⟨e, m, Z, hE, hM, ⟨n, h⟩, hZ⟩ => by
    refine ⟨fun k σ' H' => ∃ e' m', SlOk X.K H' e' σ' ∧ MemOk X.K m' H' ∧ Keep X.K H H' ∧ whileN t b k e' m' Z, ⟨n, e, m, hE, hM, Keep.refl H, h⟩, ?_⟩
    rintro k σ' H' ⟨e', m', hE', hM', k', h'⟩
    cases k with
    | zero => exact h'.elim
    | succ k =>
      refine ⟨e', m', _, _, hE', hM', h', fun b m1 H1 h1 k1 hM1 => if2 (K := X.K) h1 (fun h1 => ?_) (fun h1 => hZ.nx e' m1 σ' H1 h1 (k'.trans k1) (hE'.keep k1) hM1), (hZ.keep k').xe hE'⟩
      refine ⟨fun σ2 H2 => ∃ e2 m2, SlOk X.K H2 e2 σ2 ∧ MemOk X.K m2 H2 ∧ Keep X.K H H2 ∧ whileN t _ k e2 m2 Z, fun σ2 H2 q => ⟨k, Nat.lt_succ_self k, q⟩, ?_⟩
      exact ⟨e', m1, _, hE'.keep k1, hM1, h1, ⟨fun e2 m2 σ2 H2 ⟨m3, sb, q⟩ k2 hE2 hM2 => ⟨e2, m3, hE2, hM2.sub sb, k'.trans (k1.trans k2), q⟩, (hZ.keep (k'.trans k1)).rt, (hZ.keep (k'.trans k1)).nx, fun e2 m2 σ2 H2 ⟨m3, sb, q⟩ k2 hE2 hM2 => ⟨e2, m3, hE2, hM2.sub sb, k'.trans (k1.trans k2), q⟩, (hZ.keep (k'.trans k1)).ex⟩⟩

/-! ### what is walked -/
structure ItD where
  G : Mem → Prop
  items : List D
structure IterOk (K : PySem.W.Frag) (H0 : Hp) (J : It) (T : ItD) : Prop where
  go : ∀ i m H, Keep K H0 H → MemOk K m H → T.G m → i < T.items.length → J.go i H
  stop : ∀ m H, Keep K H0 H → MemOk K m H → T.G m → J.stop T.items.length H
  yld : ∀ i m H x H' d, Keep K H0 H → MemOk K m H → T.G m → T.items[i]? = some d → J.yld i H x H' → Keep K H H' ∧ MemOk K m H' ∧ DV K H' d x
abbrev EI := Sl → Mem → (ItD → Mem → Prop) → XD → Prop
def RI (K : PySem.W.Frag) (W : WX) (r : EI) : TI := fun σ H R => ∃ e m Q0 X0, SlOk K H e σ ∧ MemOk K m H ∧ r e m Q0 X0 ∧ (∀ T m' H' J, Q0 T m' → Keep K H H' → MemOk K m' H' → IterOk K H' J T → R J H') ∧ CE K H X0 (WE W σ)
theorem PIimp {tg e : Expr} {t t' : TI} (h : PI X tg e t) (k : ∀ σ H Q, t' σ H Q → t σ H Q) : PI X tg e t' := ⟨fun pins s σ H Q I q => h.run pins s σ H Q I (k _ _ _ q)⟩
def noG : Mem → Prop := fun _ => True
def iterQ (d : D) (m : Mem) (Q : ItD → Mem → Prop) : Prop := match d with
  | .tup xs => Q ⟨noG, xs⟩ m
  | .ct xs => Q ⟨noG, xs⟩ m
  | .lis xs => Q ⟨noG, xs⟩ m
  | .str z => Q ⟨noG, signs z⟩ m
  | .ref a => (match m a with
    | some (.lst xs) => Q ⟨fun m' => m' a = some (.lst xs), xs⟩ m
    | _ => False)
  | _ => False
def iSeq (r : EE) : EI := fun e m Q X => r e m (fun d m1 => iterQ d m1 Q) X
theorem it_list {K : PySem.W.Frag} {H0 : Hp} {a : Addr} {T : ItD} (h : ∀ m H, Keep K H0 H → MemOk K m H → T.G m → ∃ vs, SqL K H a vs ∧ DVs K H T.items vs) : IterOk K H0 (Itl K a) T where
  go := fun i m H k hM hg hi => by
    obtain ⟨vs, ha, hv⟩ := h m H k hM hg
    obtain ⟨v, e, _⟩ := hv.get (i := i) (List.getElem?_eq_getElem hi)
    exact ⟨vs, v, ha, e⟩
  stop := fun m H k hM hg => by
    obtain ⟨vs, ha, hv⟩ := h m H k hM hg
    exact ⟨vs, ha, by rw [hv.length]; exact Nat.le_refl _⟩
  yld := fun i m H x H' d k hM hg e y => by
    obtain ⟨vs, ha, hv⟩ := h m H k hM hg
    obtain ⟨rfl, y⟩ := y
    obtain ⟨v, e2, dv⟩ := hv.get e
    rw [y vs ha] at e2
    cases e2
    exact ⟨Keep.refl _, hM, dv⟩
theorem it_tup {K : PySem.W.Frag} {H0 : Hp} {a : Addr} {T : ItD} (h : ∀ m H, Keep K H0 H → MemOk K m H → T.G m → ∃ vs, SqT K H a vs ∧ DVs K H T.items vs) : IterOk K H0 (Itt K a) T where
  go := fun i m H k hM hg hi => by
    obtain ⟨vs, ha, hv⟩ := h m H k hM hg
    obtain ⟨v, e, _⟩ := hv.get (i := i) (List.getElem?_eq_getElem hi)
    exact ⟨vs, v, ha, e⟩
  stop := fun m H k hM hg => by
    obtain ⟨vs, ha, hv⟩ := h m H k hM hg
    exact ⟨vs, ha, by rw [hv.length]; exact Nat.le_refl _⟩
  yld := fun i m H x H' d k hM hg e y => by
    obtain ⟨vs, ha, hv⟩ := h m H k hM hg
    obtain ⟨rfl, y⟩ := y
    obtain ⟨v, e2, dv⟩ := hv.get e
    rw [y vs ha] at e2
    cases e2
    exact ⟨Keep.refl _, hM, dv⟩
theorem it_str {K : PySem.W.Frag} {H0 : Hp} {z : Str} : IterOk K H0 (Its z) ⟨noG, signs z⟩ where
  go := fun i m H k hM hg hi => walk_str.goes i H (by simpa [signs] using hi) trivial
  stop := fun m H k hM hg => by
    have := (walk_str (z := z)).stops H trivial
    simpa [signs] using this
  yld := fun i m H x H' d k hM hg e y => by
    have hi : i < z.cps.size := by
      have := (List.getElem?_eq_some_iff.mp e).1
      simpa [signs] using this
    obtain ⟨rfl, c, hc, rfl⟩ := (walk_str (z := z)).yields i H x H' hi trivial y
    simp only [signs, List.getElem?_map, Array.getElem?_toList, hc, Option.map_some] at e
    cases e
    exact ⟨Keep.refl _, hM, by simp only [DV]⟩
theorem it_range {K : PySem.W.Frag} {H0 : Hp} {lo : Int} {n : Nat} : IterOk K H0 (Itr lo n) ⟨noG, (List.range n).map fun i => .int (lo + (i : Nat))⟩ where
  go := fun i m H k hM hg hi => by
    show i < n
    simpa using hi
  stop := fun m H k hM hg => by show n ≤ _; simp
  yld := fun i m H x H' d k hM hg e y => by
    obtain ⟨rfl, rfl⟩ := y
    rw [List.getElem?_map] at e
    cases q : (List.range n)[i]? with
    | none => rw [q] at e; cases e
    | some j =>
      rw [q] at e
      have : j = i := by
        obtain ⟨h1, h2⟩ := List.getElem?_eq_some_iff.mp q
        simpa using h2.symm
      subst this
      cases e
      exact ⟨Keep.refl _, hM, by simp only [DV]⟩
end
end L2.EV
set_option maxHeartbeats 1000000
/-! EV10: for, list comprehensions, over what is walked: list, tuple, text, range. -/
namespace L2.EV
open PySem PySem.Spec PyProof.Rows
section
variable {X : Cx} {W : WX} {pos : Pos} {tg : Expr}
theorem pi_seq {l : Expr} {r : EE} (hl : PE X l (RE X.K W r)) : PI X tg l (RI X.K W (iSeq r)) := by
  refine ⟨fun pins s σ H R I ⟨e, m, Q0, X0, hE, hM, h, hQ, hX⟩ => ?_⟩
  refine thn (hl.run pins s σ H (fun v H1 => ∃ d m1, iterQ d m1 Q0 ∧ Keep X.K H H1 ∧ MemOk X.K m1 H1 ∧ DV X.K H1 d v) I ⟨e, m, _, X0, hE, hM, h, fun d m' H' v q k hM' dv => ⟨d, m', q, k, hM', dv⟩, hX⟩) fun v s1 ⟨x, H1, I1, r1, d, m1, q, k, hM1, dv⟩ => ?_
  have lst : ∀ {a : Addr} {vs : List V} {T : ItD}, x = .ref a → SqL X.K H1 a vs → R (Itl X.K a) H1 → wpAny (model X.prog X.w) X.A (pyIter v) (PIE X pins σ tg R) X.xe s1 := by
    intro a vs T e hq q
    subst e
    cases r1
    obtain ⟨its, rv, p, hz⟩ := I1.list hq
    exact wpAny_pyIter_list p.isList (pi_one (tk := s1.toks) I1 _ (turn_list a _) ⟨_, Heap.get?_push_size _ rfl, rfl, rfl⟩ q)
  have tup : ∀ {a : Addr} {vs : List V} {T : ItD}, x = .ref a → SqT X.K H1 a vs → R (Itt X.K a) H1 → wpAny (model X.prog X.w) X.A (pyIter v) (PIE X pins σ tg R) X.xe s1 := by
    intro a vs T e hq q
    subst e
    cases r1
    obtain ⟨its, rv, p, hz⟩ := I1.tuple hq
    exact wpAny_pyIter_tuple (show s1.heap.IsTuple a its.toArray from p) (pi_one (tk := s1.toks) I1 _ (turn_tuple a _) ⟨_, Heap.get?_push_size _ rfl, rfl, rfl⟩ q)
  cases d with
  | tup xs =>
    simp only [DV] at dv
    obtain ⟨a, vs, ev, ha, hv⟩ := dv
    exact tup (T := ⟨noG, xs⟩) ev (.inl (.inl ha)) (hQ _ m1 H1 _ q k hM1 (it_tup fun m' H' k' _ _ => ⟨vs, .inl (.inl (k'.1 _ _ ha)), hv.keep k'⟩))
  | ct xs =>
    simp only [DV] at dv
    obtain ⟨a, vs, ev, ha, hv⟩ := dv
    exact tup (T := ⟨noG, xs⟩) ev ha.seq (hQ _ m1 H1 _ q k hM1 (it_tup fun m' H' k' _ _ => ⟨vs, ha.seq, hv.keep k'⟩))
  | lis xs =>
    simp only [DV] at dv
    obtain ⟨a, vs, ev, ha, hv⟩ := dv
    exact lst (T := ⟨noG, xs⟩) ev ha.seq (hQ _ m1 H1 _ q k hM1 (it_list fun m' H' k' _ _ => ⟨vs, (k'.2 _ _ ha).seq, hv.keep k'⟩))
  | str z =>
    simp only [DV] at dv
    subst dv
    obtain ⟨t, rfl⟩ := r1
    have q' := hQ _ m1 H1 (Its z) q k hM1 it_str
    cases ha : z.cps.all (· < 128)
    · exact wpAny_pyIter_wide ha (pi_one (tk := s1.toks) I1 _ (turn_str _ z t "str_iterator" (.inr rfl)) ⟨_, Heap.get?_push_size _ rfl, rfl, rfl⟩ q')
    · exact wpAny_pyIter_ascii ha (pi_one (tk := s1.toks) I1 _ (turn_str _ z t "str_ascii_iterator" (.inl rfl)) ⟨_, Heap.get?_push_size _ rfl, rfl, rfl⟩ q')
  | ref a =>
    simp only [DV] at dv
    simp only [iterQ] at q
    cases e1 : m1 a with
    | none => rw [e1] at q; exact q.elim
    | some ob =>
      rw [e1] at q
      cases ob with
      | lst xs =>
        obtain ⟨vs, ha, hv⟩ := hM1 a _ e1
        exact lst (T := ⟨noG, xs⟩) dv (.inl (.inl ha)) (hQ _ m1 H1 _ q k hM1 (it_list fun m' H' k' hM' hg => by
          obtain ⟨vs', ha', hv'⟩ := hM' a _ hg
          exact ⟨vs', .inl (.inl ha'), hv'⟩))
      | _ => exact q.elim
  | _ => exact q.elim
def iR1 (as : EA) : EI := fun e m Q X => as e m (fun ds m1 => match ds with
  | [.int j] => (-(2 ^ 62) ≤ j ∧ j < 2 ^ 62) ∧ Q ⟨noG, (List.range j.toNat).map fun i => .int (i : Nat)⟩ m1
  | _ => False) X
def iR2 (as : EA) : EI := fun e m Q X => as e m (fun ds m1 => match ds with
  | [.int i, .int j] => (-(2 ^ 62) ≤ i ∧ i < 2 ^ 62 ∧ -(2 ^ 62) ≤ j ∧ j < 2 ^ 62) ∧ Q ⟨noG, (List.range (j - i).toNat).map fun (k : Nat) => .int (i + (k : Nat))⟩ m1
  | _ => False) X
theorem iv_r1 {a : Expr} {as : EA} {p : Pos} (hm : X.mg "range" = none) (ha : PA X [a] (RA X.K W as)) (hg : Gl X "range" := by rfl) (hs : starEach [a] X.env = [(false, eval a X.env)] := by rfl) : PI X tg (.Call (.Name "range" p) [a] [] pos) (RI X.K W (iR1 as)) :=
  PIimp (pi_range1 hg hm ha hs) fun σ H R ⟨e, m, Q0, X0, hE, hM, h, hQ, hX⟩ => ⟨e, m, _, X0, hE, hM, h, fun ds m1 H1 vs h1 k1 hM1 dv => by
    dsimp only at h1
    split at h1
    · rename_i j
      obtain ⟨v, r, rfl, dv1, dv2⟩ := dv.un
      rw [dv2.un0]
      simp only [DV] at dv1; subst dv1
      refine ⟨j, rfl, h1.1.1, h1.1.2, hQ _ m1 H1 _ h1.2 k1 hM1 ?_⟩
      have := it_range (K := X.K) (H0 := H1) (lo := 0) (n := j.toNat)
      simpa using this
    · exact h1.elim, hX⟩
theorem iv_r2 {a b : Expr} {as : EA} {p : Pos} (hm : X.mg "range" = none) (ha : PA X [a, b] (RA X.K W as)) (hg : Gl X "range" := by rfl) (hs : starEach [a, b] X.env = [(false, eval a X.env), (false, eval b X.env)] := by rfl) (hs2 : starEach [b] X.env = [(false, eval b X.env)] := by rfl) : PI X tg (.Call (.Name "range" p) [a, b] [] pos) (RI X.K W (iR2 as)) :=
  PIimp (pi_range2 hg hm ha hs hs2) fun σ H R ⟨e, m, Q0, X0, hE, hM, h, hQ, hX⟩ => ⟨e, m, _, X0, hE, hM, h, fun ds m1 H1 vs h1 k1 hM1 dv => by
    dsimp only at h1
    split at h1
    · rename_i i j
      obtain ⟨v, r, rfl, dv1, dv2⟩ := dv.un
      obtain ⟨v2, r2, rfl, dv2, dv3⟩ := dv2.un
      rw [dv3.un0]
      simp only [DV] at dv1 dv2; subst dv1 dv2
      exact ⟨i, j, rfl, h1.1, hQ _ m1 H1 _ h1.2 k1 hM1 it_range⟩
    · exact h1.elim, hX⟩
/-! ### for -/
def forN (G : Mem → Prop) (g : EG) (b : ES) (Z : Zs) : List D → Sl → Mem → Prop
  | [], e, m => G m ∧ Z.nx e m
  | x :: xs, e, m => G m ∧ g x e m (fun e1 m1 => b e1 m1 { nx := forN G g b Z xs, ct := forN G g b Z xs, bk := Z.nx, rt := Z.rt, ex := Z.ex })
def sFor (it : EI) (g : EG) (b : ES) : ES := fun e m Z => it e m (fun T m1 => forN T.G g b Z T.items e m1) (xs_ Z e)
theorem sv_for {iter : Expr} {body : List Stmt} {it : EI} {g : EG} {b : ES} (hp : PassesOwn (model X.prog X.w) X.A X.env X.xe) (hc : X.calm = true) (hi : PI X tg iter (RI X.K W it)) (hg : PG X tg (RG X.K g)) (hb : PSs X body (RS X.K W b))
    (hs : ∀ x, foldedSetIterable iter X.env x = pure x := by intro _; rfl) : PS X (.For tg iter body [] pos) (RS X.K W (sFor it g b)) :=
  PSimp (ps_for hp hc hi hg hb hs) fun D σ H ⟨e, m, Z, hE, hM, h, hZ⟩ => by
    refine ⟨e, m, _, _, hE, hM, h, fun T m1 H1 J h1 k1 hM1 IT => ?_, hZ.xe hE⟩
    refine ⟨fun i k σ' H' => k = T.items.length - i ∧ i ≤ T.items.length ∧ ∃ e' m', SlOk X.K H' e' σ' ∧ MemOk X.K m' H' ∧ Keep X.K H1 H' ∧ forN T.G g b Z (T.items.drop i) e' m', ⟨T.items.length, by simp, Nat.zero_le _, e, m1, hE.keep k1, hM1, Keep.refl _, by simpa using h1⟩, ?_⟩
    rintro i k σ' H' ⟨rfl, hi, e', m', hE', hM', k', h'⟩
    by_cases hlt : i < T.items.length
    · have ed : T.items.drop i = T.items[i] :: T.items.drop (i + 1) := List.drop_eq_getElem_cons hlt
      rw [ed] at h'
      obtain ⟨hG, h'⟩ := h'
      refine .inr ⟨IT.go i m' H' k' hM' hG hlt, fun σ2 H2 => ∃ e2 m2, SlOk X.K H2 e2 σ2 ∧ MemOk X.K m2 H2 ∧ Keep X.K H1 H2 ∧ forN T.G g b Z (T.items.drop (i + 1)) e2 m2, fun σ2 H2 q => ⟨T.items.length - (i + 1), by omega, rfl, hlt, q⟩, fun x H2 y => ?_⟩
      obtain ⟨k2, hM2, dx⟩ := IT.yld i m' H' x H2 _ k' hM' hG (List.getElem?_eq_getElem hlt) y
      refine ⟨_, e', m', _, hE'.keep k2, hM2, dx, h', fun e3 m3 σ3 H3 h3 k3 hE3 hM3 => ?_⟩
      have kk : Keep X.K H1 H3 := k'.trans (k2.trans k3)
      exact ⟨e3, m3, _, hE3, hM3, h3, ⟨fun e4 m4 σ4 H4 h4 k4 hE4 hM4 => ⟨e4, m4, hE4, hM4, kk.trans k4, h4⟩, (hZ.keep (k1.trans kk)).rt, (hZ.keep (k1.trans kk)).nx, fun e4 m4 σ4 H4 h4 k4 hE4 hM4 => ⟨e4, m4, hE4, hM4, kk.trans k4, h4⟩, (hZ.keep (k1.trans kk)).ex⟩⟩
    · have ei : i = T.items.length := by omega
      subst ei
      rw [List.drop_length] at h'
      exact .inl ⟨IT.stop m' H' k' hM' h'.1, hZ.nx e' m' σ' H' h'.2 (k1.trans k') hE' hM'⟩
/-! ### targets of a comprehension: the block's own slots alone change -/
def RGw (K : PySem.W.Frag) (vs : List Nat) (g : EG) : TG := fun v σ H Q => ∃ d e m Q0, SlOk K H e σ ∧ MemOk K m H ∧ DV K H d v ∧ g d e m Q0 ∧ ∀ e' m' σ' H', Q0 e' m' → wipe σ' vs = wipe σ vs → Keep K H H' → SlOk K H' e' σ' → MemOk K m' H' → Q σ' H'
def RGws (K : PySem.W.Frag) (vs : List Nat) (g : EGs) : TGs := fun us σ H Q => ∃ ds e m Q0, SlOk K H e σ ∧ MemOk K m H ∧ DVs K H ds us ∧ g ds e m Q0 ∧ ∀ e' m' σ' H', Q0 e' m' → wipe σ' vs = wipe σ vs → Keep K H H' → SlOk K H' e' σ' → MemOk K m' H' → Q σ' H'
theorem wipe_set {i : Nat} {v : Option V} : ∀ {vs : List Nat} {σ : St}, i ∈ vs → wipe (σ.set i v) vs = wipe σ vs
  | [], _, h => by simp at h
  | j :: vs, σ, h => by
    unfold wipe
    by_cases hj : i = j
    · subst hj
      have go : ∀ (us : List Nat) (τ : St), (wipe (τ.set i v) us).set i none = (wipe τ us).set i none := by
        intro us
        induction us with
        | nil => intro τ; simp [wipe]
        | cons a us ih =>
          intro τ
          unfold wipe
          by_cases ha : a = i
          · subst ha; rw [List.set_set, List.set_set]; exact ih τ
          · rw [List.set_comm _ _ ha, List.set_comm _ _ ha, ih τ]
      exact go vs σ
    · have : i ∈ vs := by
        rcases List.mem_cons.mp h with q | q
        · exact absurd q hj
        · exact q
      rw [wipe_set this]
theorem gw_name (i : Nat) {vs : List Nat} {x : Str} (hN : X.N.Nodup) (hv : i ∈ vs := by simp) (hx : Loc X.env.scope x := by first | exact .inl rfl | exact .inr rfl) (hi : X.N[i]? = some x := by rfl) (hf : X.fn x = true ∨ X.env.scope.names.lookup x = some .local := by first | exact .inl rfl | exact .inr rfl | assumption) : PG X (.Name x pos) (RGw X.K vs (gN i)) :=
  PGimp (pg_name hN hi hx hf) fun v σ H Q ⟨d, e, m, Q0, hE, hM, hd, h, hQ⟩ => hQ _ m _ H h (wipe_set hv) (Keep.refl H) (hE.set i hd) hM
theorem gw_nil {vs : List Nat} : PGs X [] (RGws X.K vs gsNil) := PGsimp pgs_nil fun v σ H Q ⟨ds, e, m, Q0, hE, hM, hd, h, hQ⟩ => by
  cases ds with
  | nil => exact ⟨hd.un0, hQ e m σ H h rfl (Keep.refl H) hE hM⟩
  | cons _ _ => exact h.elim
theorem gw_cons {vs : List Nat} {a : Expr} {es : List Expr} {g : EG} {r : EGs} (h1 : PG X a (RGw X.K vs g)) (h2 : PGs X es (RGws X.K vs r)) (hs : (assignEach (a :: es) X.env).map (·.2) = assign a X.env :: (assignEach es X.env).map (·.2) := by rfl) : PGs X (a :: es) (RGws X.K vs (gsCons g r)) :=
  PGsimp (pgs_cons h1 h2 hs) fun v σ H Q ⟨ds, e, m, Q0, hE, hM, hd, h, hQ⟩ => by
    cases ds with
    | nil => exact h.elim
    | cons d ds =>
      obtain ⟨v, vr, rfl, h3, h4⟩ := hd.un
      exact ⟨v, vr, rfl, d, e, m, _, hE, hM, h3, h, fun e1 m1 σ1 H1 q1 w1 k1 hE1 hM1 => ⟨ds, e1, m1, Q0, hE1, hM1, h4.keep k1, q1, fun e2 m2 σ2 H2 q2 w2 k2 hE2 hM2 => hQ e2 m2 σ2 H2 q2 (w2.trans w1) (k1.trans k2) hE2 hM2⟩⟩
theorem gw_tup {vs : List Nat} {es : List Expr} {k n : Nat} {g : EGs} (hc : X.calm = true) (h : PGs X es (RGws X.K vs g)) (hn : (assignEach es X.env).length = n := by rfl) (hst : (assignEach es X.env).findIdx? (·.1) = none := by rfl) : PG X (.Tuple es k pos) (RGw X.K vs (gT n g)) :=
  PGimp (pg_tup hc h hn hst) fun v σ H Q ⟨d, e, m, Q0, hE, hM, hd, h, hQ⟩ => by
    have go : ∀ {ds : List D}, tupOf d = some ds → ds.length = n ∧ g ds e m Q0 → ∃ a xs, v = .ref a ∧ SqT X.K H a xs ∧ xs.length = n ∧ RGws X.K vs g xs σ H Q := fun {ds} e1 ⟨h1, h2⟩ => by
      obtain ⟨a, us, rfl, ha, hv⟩ := tupOf_dv hd e1
      exact ⟨a, us, rfl, ha, by rw [hv.length]; exact h1, ds, e, m, Q0, hE, hM, hv, h2, hQ⟩
    cases d with
    | tup ds => exact go rfl h
    | ct ds => exact go rfl h
    | _ => exact h.elim
/-! ### [.. for .. in .. if ..] -/
abbrev W0 : WX := fun _ _ _ _ => False
def noX : XD := fun _ _ _ => False
theorem ce0 {K : PySem.W.Frag} {H : Hp} {σ : St} : CE K H noX (WE W0 σ) := fun _ _ _ _ q => q.elim
def wipeD (e : Sl) : List Nat → Sl
  | [] => e
  | v :: vs => (wipeD e vs).set v none
theorem SlOk.wipe {K : PySem.W.Frag} {H : Hp} {e : Sl} {σ : St} (h : SlOk K H e σ) : ∀ vs : List Nat, SlOk K H (wipeD e vs) (wipe σ vs)
  | [] => h
  | v :: vs => by unfold wipeD L2.wipe; exact (SlOk.wipe h vs).unset v
def lcN (G : Mem → Prop) (g : EG) (t : ET) (r : EE) (p : Addr) (e : Sl) (Q : Mem → Prop) : List D → Mem → Prop
  | [], m => G m ∧ Q m
  | x :: xs, m => G m ∧ g x e m (fun e1 m1 => t e1 m1 (fun k m2 => (k = true → r e1 m2 (fun y m3 => ∃ acc, m3 p = some (.lst acc) ∧ acc.length < sizeLine ∧ lcN G g t r p e Q xs (mup m3 p (.lst (acc ++ [y])))) noX) ∧ (k = false → lcN G g t r p e Q xs m2)) noX)
def eLc (it : EI) (g : EG) (t : ET) (r : EE) (vs : List Nat) : EE := fun e m Q X => it e m (fun T m1 => ∀ p, m1 p = none → lcN T.G g t r p (wipeD e vs) (fun m2 => Q (.ref p) m2) T.items (mup m1 p (.lst []))) X
def tYesD : ET := fun e m Q _ => Q true m
theorem PTsimp {e : List Expr} {t t' : TT} (h : PTs X e t) (k : ∀ σ H Q, t' σ H Q → t σ H Q) : PTs X e t' := ⟨fun pins s σ H Q I q => h.run pins s σ H Q I (k _ _ _ q)⟩
theorem tvs_nil : PTs X [] (RT X.K W tYesD) := PTsimp pts_nil fun σ H Q ⟨e, m, Q0, X0, hE, hM, h, hQ, _⟩ => hQ _ m H h (Keep.refl H) hM
theorem tvs_one {c : Expr} {t : ET} (h : PT X c (RT X.K W t)) : PTs X [c] (RT X.K W t) := pts_one h
theorem lc_imp {it : EI} {g : EG} {t : ET} {r : EE} {vs : List Nat} {σ : St} {H : Hp} {Q : VK} (h : RE X.K W (eLc it g t r vs) σ H Q) : tLc (RI X.K W it) (RGw X.K vs g) (RT X.K W0 t) (RE X.K W0 r) vs σ H Q := by
  obtain ⟨e, m, Q0, X0, hE, hM, h, hQ, hX⟩ := h
  refine ⟨e, m, _, X0, hE, hM, h, fun T m1 H1 J h1 k1 hM1 IT => ?_, hX⟩
  intro p hp
  have hp' := hM1.none hp
  have h2 := h1 p hp'
  have kn : Keep X.K H1 (upd H1 p (.lst [])) := keep_upd (by rw [hp]; trivial)
  have hMn : MemOk X.K (mup m1 p (.lst [])) (upd H1 p (.lst [])) := hM1.upd (by rw [hp]; trivial) ⟨[], upd_same, .nil⟩
  refine ⟨fun i k H' => k = T.items.length - i ∧ i ≤ T.items.length ∧ ∃ m', MemOk X.K m' H' ∧ Keep X.K H1 H' ∧ lcN T.G g t r p (wipeD e vs) (fun m2 => Q0 (.ref p) m2) (T.items.drop i) m', ⟨T.items.length, by simp, Nat.zero_le _, _, hMn, kn, by simpa using h2⟩, ?_⟩
  rintro i k H' ⟨rfl, hi, m', hM', k', h'⟩
  by_cases hlt : i < T.items.length
  · have ed : T.items.drop i = T.items[i] :: T.items.drop (i + 1) := List.drop_eq_getElem_cons hlt
    rw [ed] at h'
    obtain ⟨hG, h'⟩ := h'
    refine .inr ⟨IT.go i m' H' k' hM' hG hlt, fun H2 => ∃ m2, MemOk X.K m2 H2 ∧ Keep X.K H1 H2 ∧ lcN T.G g t r p (wipeD e vs) (fun m2 => Q0 (.ref p) m2) (T.items.drop (i + 1)) m2, fun H2 q => ⟨T.items.length - (i + 1), by omega, rfl, hlt, q⟩, fun x H2 y => ?_⟩
    obtain ⟨k2, hM2, dx⟩ := IT.yld i m' H' x H2 _ k' hM' hG (List.getElem?_eq_getElem hlt) y
    refine ⟨_, wipeD e vs, m', _, (hE.wipe vs).keep (k1.trans (k'.trans k2)), hM2, dx, h', fun e3 m3 σ3 H3 h3 w3 k3 hE3 hM3 => ⟨?_, ?_⟩⟩
    · refine w3.trans ?_
      have idem : ∀ (us : List Nat) (τ : St), wipe (wipe τ us) us = wipe τ us := by
        intro us
        have key : ∀ (us ws : List Nat) (τ : St), (∀ a ∈ us, a ∈ ws) → wipe (wipe τ us) ws = wipe τ ws := by
          intro us
          induction us with
          | nil => intro ws τ _; rfl
          | cons a us ih =>
            intro ws τ h
            show wipe ((wipe τ us).set a none) ws = wipe τ ws
            rw [wipe_set (h a (by simp))]
            exact ih ws τ fun b hb => h b (by simp [hb])
        exact fun τ => key us us τ fun _ h => h
      exact idem vs σ
    · refine ⟨e3, m3, _, _, hE3, hM3, h3, fun b m4 H4 h4 k4 hM4 => ?_, ce0⟩
      have kk : Keep X.K H1 H4 := k'.trans (k2.trans (k3.trans k4))
      cases b with
      | false => exact ⟨m4, hM4, kk, h4.2 rfl⟩
      | true =>
        refine ⟨e3, m4, _, _, hE3.keep k4, hM4, h4.1 rfl, fun d m5 H5 v h5 k5 hM5 dv => ?_, ce0⟩
        obtain ⟨acc, ha, hl, h5⟩ := h5
        obtain ⟨us, hH, hu⟩ := hM5 p _ ha
        refine ⟨us, hH, by rw [hu.length]; exact hl, ?_⟩
        exact finU (P := fun m' => lcN T.G g t r p (wipeD e vs) (fun m2 => Q0 (.ref p) m2) (T.items.drop (i + 1)) m') (R := fun H2 => ∃ m2, MemOk X.K m2 H2 ∧ Keep X.K H1 H2 ∧ lcN T.G g t r p (wipeD e vs) (fun m2 => Q0 (.ref p) m2) (T.items.drop (i + 1)) m2) hM5 hH trivial h5 (fun H' k q => ⟨_, q, (hu.keep k).append (.cons (dv.keep k) .nil)⟩) fun m6 H6 q k6 hM6 => ⟨m6, hM6, kk.trans (k5.trans k6), q⟩
  · have ei : i = T.items.length := by omega
    subst ei
    rw [List.drop_length] at h'
    exact .inl ⟨IT.stop m' H' k' hM' h'.1, hQ _ m' H' _ h'.2 (k1.trans k') hM' (by simp only [DV])⟩
theorem ev_lc (own : List (Str × Nat)) {elt iter : Expr} {ifs : List Expr} {scope : Scope} {it : EI} {g : EG} {t : ET} {r : EE} (hc : X.calm = true) (hN : X.N.Nodup) (hi : PI X tg iter (RI X.K W it)) (ok : BlkOk X.N X.env.scope scope own)
    (hg : ∀ (s : Shared) (H : Hp) (C : Addr) (cl : List (Str × Addr)) (fp : List Addr), PG (X.blk s H scope (compEnvC scope cl C X.env) fp) tg (RGw X.K (own.map (·.2)) g)) (ht : ∀ (s : Shared) (H : Hp) (C : Addr) (cl : List (Str × Addr)) (fp : List Addr), PTs (X.blk s H scope (compEnvC scope cl C X.env) fp) ifs (RT X.K W0 t))
    (he : ∀ (s : Shared) (H : Hp) (C : Addr) (cl : List (Str × Addr)) (fp : List Addr), PE (X.blk s H scope (compEnvC scope cl C X.env) fp) elt (RE X.K W0 r)) (hs : ∀ x, foldedSetIterable iter X.env x = pure x := by intro _; rfl) :
    PE X (.ListComp elt [⟨tg, iter, ifs, 0⟩] scope pos) (RE X.K W (eLc it g t r (own.map (·.2)))) := PEimp (pe_lc hc hN hi ok hg ht he hs) fun _ _ _ h => lc_imp h
theorem sv_lc (i : Nat) (own : List (Str × Nat)) {y : Str} {py spos : Pos} {elt iter : Expr} {ifs : List Expr} {scope : Scope} {it : EI} {g : EG} {t : ET} {r : EE} (hc : X.calm = true) (hN : X.N.Nodup) (hyl : X.env.scope.names.lookup y = some .local) (hsw : swapsWith (.ListComp elt [⟨tg, iter, ifs, 0⟩] scope pos) (some (.Name y py)) spos.line X.env = pure true)
    (hi : PI X tg iter (RI X.K W it)) (ok : BlkOk X.N X.env.scope scope own)
    (hg : ∀ (s : Shared) (H : Hp) (C : Addr) (cl : List (Str × Addr)) (fp : List Addr), PG (X.blk s H scope (compEnvC scope cl C X.env) fp) tg (RGw X.K (own.map (·.2)) g)) (ht : ∀ (s : Shared) (H : Hp) (C : Addr) (cl : List (Str × Addr)) (fp : List Addr), PTs (X.blk s H scope (compEnvC scope cl C X.env) fp) ifs (RT X.K W0 t))
    (he : ∀ (s : Shared) (H : Hp) (C : Addr) (cl : List (Str × Addr)) (fp : List Addr), PE (X.blk s H scope (compEnvC scope cl C X.env) fp) elt (RE X.K W0 r)) (hs : ∀ x, foldedSetIterable iter X.env x = pure x := by intro _; rfl) (hy : X.N[i]? = some y := by rfl) :
    PS X (.Assign [.Name y py] (.ListComp elt [⟨tg, iter, ifs, 0⟩] scope pos) spos) (RS X.K W (sAsg (gN i) (eLc it g t r (own.map (·.2))))) := PSimp (ps_setLc hc hN hy hyl hsw hi ok hg ht he hs) fun D σ H ⟨e, m, Z, hE, hM, h, hZ⟩ =>
  lc_imp (X := X) (W := W) ⟨e, m, _, _, hE, hM, h, fun d m1 H1 v h1 k1 hM1 dv => hZ.nx _ m1 _ H1 h1 k1 ((hE.keep k1).set i dv) hM1, hZ.xe hE⟩
end
end L2.EV
set_option maxHeartbeats 1000000
/-! EV11: zip and enumerate over lists, tuples, texts. -/
namespace L2.EV
open PySem PySem.Spec PyProof.Rows
/-- a list, a tuple, a text that an iterator goes over -/
inductive SK where
  | l (a : Addr) | t (a : Addr) | s (x : Str) (t : Tok)
def SkOk (K : PySem.W.Frag) (H : Hp) : SK → List V → Prop
  | .l a, xs => SqL K H a xs
  | .t a, xs => SqT K H a xs
  | .s x _, xs => xs = x.cps.toList.map fun c => V.str ⟨#[c]⟩
def SkV : SK → Value
  | .l a => .ref a
  | .t a => .ref a
  | .s x t => .str x t
def SkO : SK → Obj
  | .l a => { cls := .type "list_iterator", data := .fields #[.ref a, .int 0 0] }
  | .t a => { cls := .type "tuple_iterator", data := .fields #[.ref a, .int 0 0] }
  | .s x t => { cls := .type (strIterType x), data := .fields #[.str x t, .int 0 0] }
def SkC : SK → Addr → Nat → Heap → Prop
  | .l a, it, i, h => h.IsListIter it a i
  | .t a, it, i, h => h.IsTupleIter it a i
  | .s x t, it, i, h => h.IsStrIter it (strIterType x) x t i
def SkF : SK → List Addr
  | .l a => [a]
  | .t a => [a]
  | .s _ _ => []
theorem SkC.ex {k : SK} {it : Addr} {i : Nat} {h : Heap} (x : SkC k it i h) : ∃ o, h.get? it = some o ∧ ∀ v, o.data ≠ .cell v := by
  cases k with
  | l a => obtain ⟨o, e, c, d⟩ := x; exact ⟨o, e, fun v z => by rw [d] at z; cases z⟩
  | t a => obtain ⟨o, e, c, d⟩ := x; exact ⟨o, e, fun v z => by rw [d] at z; cases z⟩
  | s z t => obtain ⟨o, e, c, d⟩ := x; exact ⟨o, e, fun v z => by rw [d] at z; cases z⟩
theorem SkC.keep {k : SK} {it : Addr} {i : Nat} {h h' : Heap} (x : SkC k it i h) (q : ∀ o, h.get? it = some o → h'.get? it = some o) : SkC k it i h' := by
  cases k with
  | l a => obtain ⟨o, e, c⟩ := x; exact ⟨o, q o e, c⟩
  | t a => obtain ⟨o, e, c⟩ := x; exact ⟨o, q o e, c⟩
  | s z t => obtain ⟨o, e, c⟩ := x; exact ⟨o, q o e, c⟩
theorem SkC.new {k : SK} {it : Addr} {h : Heap} (e : h.get? it = some (SkO k)) : SkC k it 0 h := by
  cases k with
  | l a => exact ⟨_, e, rfl, rfl⟩
  | t a => exact ⟨_, e, rfl, rfl⟩
  | s z t => exact ⟨_, e, rfl, rfl⟩
theorem valsGetV {i : Nat} {u : Value} : ∀ {xs : List V} {us : List Value}, Vals xs us → us[i]? = some u → ∃ x, xs[i]? = some x ∧ RelV x u
  | _, _, .nil, e => by simp at e
  | _, _, .cons r rr, e => by
    cases i with
    | zero => cases (by simpa using e : _ = u); exact ⟨_, rfl, r⟩
    | succ j => exact valsGetV (i := j) rr (by simpa using e)
theorem zipSep (n : Nat) {f1 f2 : List Addr} (h1 : ∀ b ∈ f1, b < n) (h2 : ∀ b ∈ f2, b < n) : ZipSep2 (n + 4 : Nat) (n + 2 : Nat) (n + 3 : Nat) n (n + 1 : Nat) (n :: f1) ((n + 1 : Nat) :: f2) :=
  have a1 : ∀ j : Nat, (n + j : Nat) ∉ f1 := fun j hb => absurd (h1 _ hb) (Nat.not_lt.mpr (Nat.le_add_right n j))
  have a2 : ∀ j : Nat, (n + j : Nat) ∉ f2 := fun j hb => absurd (h2 _ hb) (Nat.not_lt.mpr (Nat.le_add_right n j))
  have ne : ∀ {i j : Nat}, i ≠ j → (n + i : Nat) ≠ n + j := fun h e => h (Nat.add_left_cancel e)
  have mm : ∀ {j : Nat} {a : Nat} {f : List Addr}, (n + j : Nat) ≠ a → (n + j : Nat) ∉ f → (n + j : Nat) ∉ (a :: f : List Nat) := fun h k hb => (List.mem_cons.mp hb).elim h k
  { TIz := ne (by decide), TOz := ne (by decide), TITO := ne (by decide), TIi1 := ne (i := 2) (j := 0) (by decide), mem1 := List.mem_cons_self .., TIi2 := ne (by decide), mem2 := List.mem_cons_self ..,
    zf1 := mm (ne (i := 4) (j := 0) (by decide)) (a1 4), Tf1 := mm (ne (i := 3) (j := 0) (by decide)) (a1 3), zf2 := mm (ne (by decide)) (a2 4), Tf2 := mm (ne (by decide)) (a2 3),
    sep1_2 := mm (j := 0) (ne (i := 0) (by decide)) (a2 0), sep2_1 := mm (ne (i := 1) (j := 0) (by decide)) (a1 1) }
section
variable {X : Cx} {pins : List (Addr × Obj)} {σ : St} {H : Hp} {s : Shared}
theorem SkD (hc : X.calm = true) (I : Inv X pins σ H s) {k : SK} {xs : List V} (hx : SkOk X.K H k xs) {it : Addr} (hit : it ∉ SkF k) :
    ∃ (P : Nat → Value → Prop) (S : Nat → Heap → Prop), Draws X.prog X.w X.A.in1 it (it :: SkF k) xs.length P S ∧ (∀ i, SkC k it i s.heap → S i s.heap) ∧ (∀ i h, S i h → SkC k it i h) ∧ ∀ i v, P i v → ∃ x, xs[i]? = some x ∧ RelV x v := by
  have hh : X.A.in1.handled = none := I.ok.hd hc
  cases k with
  | l a =>
    obtain ⟨its, rv, p, hz⟩ := I.list hx
    have hl : its.toArray.size = xs.length := by have := rv.length; simp; omega
    have D := Draws.list (prog := X.prog) (w := X.w) hh it a (fun e => hit (by simp [SkF, e])) its.toArray
    rw [hl] at D
    exact ⟨_, _, D, fun i c => ⟨c, p.isList⟩, fun i h c => c.1, fun i v e => valsGetV rv (by simpa using e)⟩
  | t a =>
    obtain ⟨its, rv, p, hz⟩ := I.tuple hx
    have hl : its.toArray.size = xs.length := by have := rv.length; simp; omega
    have D := Draws.tuple (prog := X.prog) (w := X.w) hh it a (fun e => hit (by simp [SkF, e])) its.toArray
    rw [hl] at D
    exact ⟨_, _, D, fun i c => ⟨c, show s.heap.IsTuple a its.toArray from p⟩, fun i h c => c.1, fun i v e => valsGetV rv (by simpa using e)⟩
  | s z t =>
    have hx : xs = z.cps.toList.map fun c => V.str ⟨#[c]⟩ := hx
    have hl : z.cps.size = xs.length := by rw [hx]; simp
    have D := Draws.text (prog := X.prog) (w := X.w) hh it z t
    rw [hl] at D
    refine ⟨_, _, D, fun i c => c, fun i h c => c, fun i v ⟨c, u, e, ev⟩ => ⟨.str ⟨#[c]⟩, ?_, u, ev⟩⟩
    rw [hx, List.getElem?_map, Array.getElem?_toList, e]; rfl
theorem SkB (I : Inv X pins σ H s) {k : SK} {xs : List V} (hx : SkOk X.K H k xs) : ∃ Q : Heap → Prop, Begins (SkV k) (SkO k) Q ∧ Q s.heap ∧ ∀ b ∈ SkF k, b < s.heap.objs.size := by
  cases k with
  | l a =>
    obtain ⟨its, rv, p, hz⟩ := I.list hx
    exact ⟨_, begins_list a its.toArray, p.isList, fun b hb => by rw [show b = a by simpa [SkF] using hb]; exact p.lt⟩
  | t a =>
    obtain ⟨its, rv, p, hz⟩ := I.tuple hx
    obtain ⟨o, ho, _⟩ := id p
    exact ⟨_, begins_tuple a its.toArray, p, fun b hb => by rw [show b = a by simpa [SkF] using hb]; exact Heap.lt_size ho⟩
  | s z t => exact ⟨_, begins_text z t, trivial, fun b hb => by simp [SkF] at hb⟩
theorem SkOk.inj (I : Inv X pins σ H s) {k : SK} {xs ys : List V} (hx : SkOk X.K H k xs) (hy : SkOk X.K H k ys) : xs = ys := by
  cases k with
  | l a => exact I.list_inj hx hy
  | t a => exact I.tuple_inj hx hy
  | s z t => exact (show xs = _ from hx).trans (show ys = _ from hy).symm
end
/-! ### zip -/
def Jz (K : PySem.W.Frag) (k1 k2 : SK) : It :=
  ⟨fun i H => ∃ xs ys x y, SkOk K H k1 xs ∧ SkOk K H k2 ys ∧ xs[i]? = some x ∧ ys[i]? = some y,
    fun i H v H' => ∃ T x y, v = .ref T ∧ H T = none ∧ H' = upd H T (.tup [x, y]) ∧ (∀ xs, SkOk K H k1 xs → xs[i]? = some x) ∧ ∀ ys, SkOk K H k2 ys → ys[i]? = some y,
    fun i H => ∃ xs ys, SkOk K H k1 xs ∧ SkOk K H k2 ys ∧ i = min xs.length ys.length⟩
theorem turn_zipK {P : Program} {w : World} {K : PySem.W.Frag} {elts : List Expr} {kk : Nat} {tpos : Pos} {k1 k2 : SK} {z TI TO i1 i2 : Addr} (S : ZipSep2 z TI TO i1 i2 (i1 :: SkF k1) (i2 :: SkF k2)) (h1 : i1 ∉ SkF k1) (h2 : i2 ∉ SkF k2) :
    Turn P w K (.Tuple elts kk tpos) (Jz K k1 k2) [z, TI, TO, i1, i2] z (fun i h => IsZip h z TI TO .none ∧ IsTupOf2 h TI (.ref i1) (.ref i2) ∧ (∃ a b, IsTupOf2 h TO a b) ∧ SkC k1 i1 i h ∧ SkC k2 i2 i h) where
  mem := by simp
  obj := fun i h st c hc => by
    obtain ⟨hz, hTI, ⟨x, y, hTO⟩, c1, c2⟩ := st
    have e' : c = z ∨ c = TI ∨ c = TO ∨ c = i1 ∨ c = i2 := by simpa using hc
    rcases e' with q | q | q | q | q
    · rw [q]; exact ⟨_, hz, fun v q => nomatch q⟩
    · rw [q]; exact ⟨_, hTI, fun v q => nomatch q⟩
    · rw [q]; exact ⟨_, hTO, fun v q => nomatch q⟩
    · rw [q]; exact c1.ex
    · rw [q]; exact c2.ex
  keep := fun i h h' st k => by
    obtain ⟨hz, hTI, ⟨x, y, hTO⟩, c1, c2⟩ := st
    exact ⟨k z (by simp) _ hz, k TI (by simp) _ hTI, ⟨x, y, k TO (by simp) _ hTO⟩, c1.keep fun o q => k i1 (by simp) o q, c2.keep fun o q => k i2 (by simp) o q⟩
  item := by
    intro X hP hw hK hc i pins s σ H E I hf st hg
    subst hP hw hK
    obtain ⟨hz, hTI, ⟨a, b, hTO⟩, c1, c2⟩ := st
    obtain ⟨xs, ys, x, y, hx, hy, ex, ey⟩ := hg
    obtain ⟨P1, S1, D1, f1, g1, r1⟩ := SkD hc I hx h1
    obtain ⟨P2, S2, D2, f2, g2, r2⟩ := SkD hc I hy h2
    have W := WalksT.zipD2 S D1 D2
    have l1 : i < xs.length := (List.getElem?_eq_some_iff.mp ex).1
    have l2 : i < ys.length := (List.getElem?_eq_some_iff.mp ey).1
    refine W.item i s _ _ (by omega) ⟨hz, hTI, ⟨a, b, hTO⟩, f1 i c1, f2 i c2⟩ fun T vals h' tk hv hT hTu mid hk => ?_
    obtain ⟨x1, x2, p1, p2, rfl⟩ := hv
    refine ⟨_, rfl, W.go _ _ _ i T { s with heap := h', toks := tk } _ _ mid fun h'' st2 hk2 => ?_⟩
    obtain ⟨u, eu, ru⟩ := r1 i x1 p1
    obtain ⟨u2, eu2, ru2⟩ := r2 i x2 p2
    rw [ex] at eu; cases eu
    rw [ey] at eu2; cases eu2
    obtain ⟨o, ho, hcl, n, hd⟩ := hTu
    have ho2 : h''.get? T = some o := hk2 T o (W.apart i T h' mid) ho
    have new : ObjOk X.prog X.w (upd H T (.tup [x, y])) h'' T (.tup [x, y]) := ⟨by show 2 ≤ sizeLine; decide, [x1, x2], .cons ru (.cons ru2 .nil), ⟨o, ho2, hcl, n, hd⟩⟩
    have nw : ∀ c, c ∉ [z, TI, TO, i1, i2] → c ∉ [z, TO, i1, i2] := fun c h q => h (by
      have : c = z ∨ c = TO ∨ c = i1 ∨ c = i2 := by simpa using q
      rcases this with q | q | q | q <;> simp [q])
    have I1 : Inv X pins σ (upd H T (.tup [x, y])) { s with heap := h'', toks := tk } := I.turnedNew (t' := tk) (ch := [z, TI, TO, i1, i2]) (fun c o hb q => hk2 c o (nw c hb) (hk c o (nw c hb) q)) hf hT new
    obtain ⟨z2, TI2, TO2, s1, s2⟩ := st2
    refine ⟨.ref T, _, I1, rfl, ⟨T, x, y, rfl, I.hok.fresh hT, rfl, fun l hl => by rw [SkOk.inj I hl hx]; exact ex, fun l hl => by rw [SkOk.inj I hl hy]; exact ey⟩, ⟨z2, TI2, TO2, g1 _ _ s1, g2 _ _ s2⟩, fun c hcm => ?_⟩
    have hlt : c < s.heap.objs.size := by
      have e' : c = z ∨ c = TI ∨ c = TO ∨ c = i1 ∨ c = i2 := by simpa using hcm
      rcases e' with q | q | q | q | q
      · rw [q]; exact Heap.lt_size hz
      · rw [q]; exact Heap.lt_size hTI
      · rw [q]; exact Heap.lt_size hTO
      · rw [q]; obtain ⟨_, e1, _⟩ := c1.ex; exact Heap.lt_size e1
      · rw [q]; obtain ⟨_, e2, _⟩ := c2.ex; exact Heap.lt_size e2
    rw [upd_ne (Nat.ne_of_lt (Nat.lt_of_lt_of_le hlt hT))]
    exact (hf c hcm).1
  done := by
    intro X hP hw hK hc i pins s σ H E I hf st hg
    subst hP hw hK
    obtain ⟨hz, hTI, ⟨a, b, hTO⟩, c1, c2⟩ := st
    obtain ⟨xs, ys, hx, hy, ei⟩ := hg
    obtain ⟨P1, S1, D1, f1, g1, r1⟩ := SkD hc I hx h1
    obtain ⟨P2, S2, D2, f2, g2, r2⟩ := SkD hc I hy h2
    have W := WalksT.zipD2 S D1 D2
    have nw : ∀ c, c ∉ [z, TI, TO, i1, i2] → c ∉ [z, TO, i1, i2] := fun c h q => h (by
      have : c = z ∨ c = TO ∨ c = i1 ∨ c = i2 := by simpa using q
      rcases this with q | q | q | q <;> simp [q])
    subst ei
    exact W.done s _ _ ⟨hz, hTI, ⟨a, b, hTO⟩, f1 _ c1, f2 _ c2⟩ fun h' tk hk => ⟨rfl, I.turnedL (t' := tk) (ch := [z, TI, TO, i1, i2]) (fun c o hb q => hk c o (nw c hb) q) hf⟩
  self := fun A i s Q E st h => wpAny_pyIter_zip st.1 h
/-! ### enumerate -/
def Je (K : PySem.W.Frag) (k : SK) : It :=
  ⟨fun i H => ∃ xs x, SkOk K H k xs ∧ xs[i]? = some x,
    fun i H v H' => ∃ T x, v = .ref T ∧ H T = none ∧ H' = upd H T (.tup [.int (i : Nat), x]) ∧ ∀ xs, SkOk K H k xs → xs[i]? = some x,
    fun i H => ∃ xs, SkOk K H k xs ∧ i = xs.length⟩
theorem turn_enumK {P : Program} {w : World} {K : PySem.W.Frag} {elts : List Expr} {kk : Nat} {tpos : Pos} {k : SK} {e it : Addr} (hei : e ≠ it) (hef : e ∉ SkF k) (h1 : it ∉ SkF k) :
    Turn P w K (.Tuple elts kk tpos) (Je K k) [e, it] e (fun i h => (∃ old, IsEnum h e it (0 + (i : Int)) old) ∧ SkC k it i h) where
  mem := by simp
  obj := fun i h st b hb => by
    obtain ⟨⟨old, he⟩, c⟩ := st
    have e' : b = e ∨ b = it := by simpa using hb
    rcases e' with z | z
    · rw [z]; exact ⟨_, he, fun v q => nomatch q⟩
    · rw [z]; exact c.ex
  keep := fun i h h' st k => let ⟨⟨old, he⟩, c⟩ := st; ⟨⟨old, k e (by simp) _ he⟩, c.keep fun o q => k it (by simp) o q⟩
  item := by
    intro X hP hw hK hc i pins s σ H E I hf st hg
    subst hP hw hK
    obtain ⟨he, c⟩ := st
    obtain ⟨xs, x, hx, ex⟩ := hg
    obtain ⟨P1, S1, D1, f1, g1, r1⟩ := SkD hc I hx h1
    have W := WalksT.enumFrom 0 D1 e hei (by simp [hei, hef]) (by simp)
    have l1 : i < xs.length := (List.getElem?_eq_some_iff.mp ex).1
    refine W.item i s _ _ l1 ⟨he, f1 i c⟩ fun T vals h' tk hv hT hTu mid hk => ?_
    obtain ⟨t, x1, p1, rfl⟩ := hv
    refine ⟨_, rfl, W.go _ _ _ i T { s with heap := h', toks := tk } _ _ mid fun h'' st2 hk2 => ?_⟩
    obtain ⟨u, eu, ru⟩ := r1 i x1 p1
    rw [ex] at eu; cases eu
    obtain ⟨o, ho, hcl, n, hd⟩ := hTu
    have ho2 : h''.get? T = some o := hk2 T o (W.apart i T h' mid) ho
    have new : ObjOk X.prog X.w (upd H T (.tup [.int (i : Nat), x])) h'' T (.tup [.int (i : Nat), x]) := ⟨by show 2 ≤ sizeLine; decide, [.int (0 + (i : Int)) t, x1], .cons ⟨t, by rw [Int.zero_add]⟩ (.cons ru .nil), ⟨o, ho2, hcl, n, hd⟩⟩
    have I1 : Inv X pins σ (upd H T (.tup [.int (i : Nat), x])) { s with heap := h'', toks := tk } := I.turnedNew (t' := tk) (ch := [e, it]) (fun c o hb q => hk2 c o hb (hk c o hb q)) hf hT new
    obtain ⟨he2, s1⟩ := st2
    refine ⟨.ref T, _, I1, rfl, ⟨T, x, rfl, I.hok.fresh hT, rfl, fun l hl => by rw [SkOk.inj I hl hx]; exact ex⟩, ⟨he2, g1 _ _ s1⟩, fun b hb => ?_⟩
    have hlt : b < s.heap.objs.size := by
      have e' : b = e ∨ b = it := by simpa using hb
      rcases e' with q | q
      · rw [q]; obtain ⟨_, he⟩ := he; exact Heap.lt_size he
      · rw [q]; obtain ⟨_, e1, _⟩ := c.ex; exact Heap.lt_size e1
    rw [upd_ne (Nat.ne_of_lt (Nat.lt_of_lt_of_le hlt hT))]
    exact (hf b hb).1
  done := by
    intro X hP hw hK hc i pins s σ H E I hf st hg
    subst hP hw hK
    obtain ⟨he, c⟩ := st
    obtain ⟨xs, hx, ei⟩ := hg
    obtain ⟨P1, S1, D1, f1, g1, r1⟩ := SkD hc I hx h1
    have W := WalksT.enumFrom 0 D1 e hei (by simp [hei, hef]) (by simp)
    subst ei
    exact W.done s _ _ ⟨he, f1 _ c⟩ fun h' tk hk => ⟨rfl, I.turnedL (t' := tk) (ch := [e, it]) (fun c o hb q => hk c o hb q) hf⟩
  self := fun A i s Q E st h => let ⟨⟨_, he⟩, _⟩ := st; wpAny_pyIter_enum he h
set_option maxHeartbeats 2000000 in
theorem meets_enumerate_newB1 {v : Value} {o : Obj} {H : Heap → Prop} (B : Begins v o H) :
    Meets (Builtin.«enumerate.__new__» ⟨[.type "enumerate", v], []⟩) (fun _ R s => H s.heap ∧
      R (.ok (.ret (.ref (s.heap.push o).objs.size))) { s with heap := (s.heap.push o).push { cls := .type "enumerate", data := .fields #[.none, .bool false, .ref s.heap.objs.size, rawInt 0, .none, .none] } }) :=
  .of_wp fun prog w A R s h => by
    obtain ⟨hp, g, d, tk, os⟩ := s; obtain ⟨h1, h⟩ := h
    have hsub := sub_enumerate
    have q1 : ∀ {A' : Around} {E : Value → Shared → Prop} {Q : Value → Shared → Prop}, Q (.ref hp.objs.size) ⟨hp.push o, g, d, tk, os⟩ → wpAny (model prog w) A' (pyIter v) Q E ⟨hp, g, d, tk, os⟩ :=
      fun q => B.iter prog w _ _ ⟨hp, g, d, tk, os⟩ _ h1 q
    wp_walk using q1
    refine wpAny_stack_any fun st => wpAny_pure ?_
    split
    · rename_i c _ _ _ _ _
      cases (c == Value.type "enumerate")
      · wp_walk using q1
        exact ⟨_, rfl, h⟩
      · wp_walk using q1
        exact ⟨_, rfl, h⟩
    · wp_walk using q1
      exact ⟨_, rfl, h⟩
theorem enum_begins1 {prog : Program} {w : World} {A : Around} {E : Value → Shared → Prop} {s : Shared} {v : Value} {o : Obj} {H : Heap → Prop} {Q : Value → Shared → Prop} (B : Begins v o H) (h1 : H s.heap)
    (h : ∀ h', IsEnum h' (s.heap.objs.size + 1) s.heap.objs.size 0 .none → h'.get? s.heap.objs.size = some o → h'.objs.size = s.heap.objs.size + 2 →
      (∀ b o, s.heap.get? b = some o → h'.get? b = some o) → Q (.ref (s.heap.objs.size + 1)) { s with heap := h' }) :
    wpAny (model prog w) A (call (.type "enumerate") [v]) Q E s := by
  refine callType_new F.called_enumerate (by decide) (F.typeCall_enumerate_1 _) (F.newCall_enumerate_1 _) (fun obj => F.args_object_init_2 obj _) F.entry_enumerate_new
    (meets_enumerate_newB1 B) ⟨h1, ?_⟩
  have hz : (s.heap.push o).objs.size = s.heap.objs.size + 1 := Heap.size_push ..
  show _ ∧ _
  rw [hz]
  have he : IsEnum ((s.heap.push o).push { cls := .type "enumerate", data := .fields #[.none, .bool false, .ref s.heap.objs.size, rawInt 0, .none, .none] }) (s.heap.objs.size + 1) s.heap.objs.size 0 .none := by
    have := Heap.get?_push_size (s.heap.push o) (o := { cls := .type "enumerate", data := .fields #[.none, .bool false, .ref s.heap.objs.size, rawInt 0, .none, .none] }) rfl
    rw [hz] at this; exact this
  exact ⟨⟨_, he, rfl⟩, h _ he (Heap.get?_push_of_some _ (Heap.get?_push_size _ B.free)) (by rw [Heap.size_push, hz]) fun b o x => Heap.get?_push_of_some _ (Heap.get?_push_of_some _ x)⟩
/-! ### over trees -/
theorem DVs.signs {K : PySem.W.Frag} {H : Hp} : ∀ cs : List Nat, DVs K H (cs.map fun c => D.str ⟨#[c]⟩) (cs.map fun c => V.str ⟨#[c]⟩)
  | [] => .nil
  | c :: cs => .cons (by simp only [DV]) (DVs.signs cs)
theorem iterQ_src {K : PySem.W.Frag} {H : Hp} {m : Mem} {d : D} {v : V} {u : Value} {Q : ItD → Mem → Prop} (q : iterQ d m Q) (hM : MemOk K m H) (dv : DV K H d v) (r : RelV v u) :
    ∃ (k : SK) (T : ItD) (xs : List V), u = SkV k ∧ Q T m ∧ SkOk K H k xs ∧ ∀ m' H', Keep K H H' → MemOk K m' H' → T.G m' → ∃ vs, SkOk K H' k vs ∧ DVs K H' T.items vs := by
  cases d with
  | tup xs =>
    simp only [DV] at dv
    obtain ⟨a, vs, rfl, ha, hv⟩ := dv
    cases r
    exact ⟨.t a, _, vs, rfl, q, .inl (.inl ha), fun m' H' k' _ _ => ⟨vs, .inl (.inl (k'.1 _ _ ha)), hv.keep k'⟩⟩
  | ct xs =>
    simp only [DV] at dv
    obtain ⟨a, vs, rfl, ha, hv⟩ := dv
    cases r
    exact ⟨.t a, _, vs, rfl, q, ha.seq, fun m' H' k' _ _ => ⟨vs, ha.seq, hv.keep k'⟩⟩
  | lis xs =>
    simp only [DV] at dv
    obtain ⟨a, vs, rfl, ha, hv⟩ := dv
    cases r
    exact ⟨.l a, _, vs, rfl, q, ha.seq, fun m' H' k' _ _ => ⟨vs, (k'.2 _ _ ha).seq, hv.keep k'⟩⟩
  | str z =>
    simp only [DV] at dv; subst dv
    obtain ⟨t, rfl⟩ := r
    exact ⟨.s z t, _, _, rfl, q, rfl, fun m' H' _ _ _ => ⟨_, rfl, DVs.signs _⟩⟩
  | ref a =>
    simp only [DV] at dv; subst dv
    cases r
    simp only [iterQ] at q
    cases e1 : m a with
    | none => rw [e1] at q; exact q.elim
    | some ob =>
      rw [e1] at q
      cases ob with
      | lst xs =>
        obtain ⟨vs, ha, hv⟩ := hM a _ e1
        exact ⟨.l a, _, vs, rfl, q, .inl (.inl ha), fun m' H' k' hM' hg => by
          obtain ⟨vs', ha', hv'⟩ := hM' a _ hg
          exact ⟨vs', .inl (.inl ha'), hv'⟩⟩
      | _ => exact q.elim
  | _ => exact q.elim
def pairs (xs ys : List D) : List D := (xs.zip ys).map fun p => .tup [p.1, p.2]
def iZip2 (as : EA) : EI := fun e m Q X => as e m (fun ds m1 => match ds with
  | [x, y] => iterQ x m1 fun T1 m2 => iterQ y m2 fun T2 m3 => Q ⟨fun m' => T1.G m' ∧ T2.G m', pairs T1.items T2.items⟩ m3
  | _ => False) X
def numbered (xs : List D) : List D := xs.zipIdx.map fun p => .tup [.int (p.2 : Nat), p.1]
def iEn (as : EA) : EI := fun e m Q X => as e m (fun ds m1 => match ds with
  | [x] => iterQ x m1 fun T m2 => Q ⟨T.G, numbered T.items⟩ m2
  | _ => False) X
theorem it_zip {K : PySem.W.Frag} {H0 : Hp} {k1 k2 : SK} {T1 T2 : ItD} (h1 : ∀ m' H', Keep K H0 H' → MemOk K m' H' → T1.G m' → ∃ vs, SkOk K H' k1 vs ∧ DVs K H' T1.items vs) (h2 : ∀ m' H', Keep K H0 H' → MemOk K m' H' → T2.G m' → ∃ vs, SkOk K H' k2 vs ∧ DVs K H' T2.items vs) :
    IterOk K H0 (Jz K k1 k2) ⟨fun m' => T1.G m' ∧ T2.G m', pairs T1.items T2.items⟩ where
  go := fun i m H k hM hg hi => by
    obtain ⟨vs, a1, b1⟩ := h1 m H k hM hg.1
    obtain ⟨us, a2, b2⟩ := h2 m H k hM hg.2
    have hi' : i < min T1.items.length T2.items.length := by simpa [pairs] using hi
    obtain ⟨v, e, _⟩ := b1.get (i := i) (List.getElem?_eq_getElem (by omega))
    obtain ⟨u, e2, _⟩ := b2.get (i := i) (List.getElem?_eq_getElem (by omega))
    exact ⟨vs, us, v, u, a1, a2, e, e2⟩
  stop := fun m H k hM hg => by
    obtain ⟨vs, a1, b1⟩ := h1 m H k hM hg.1
    obtain ⟨us, a2, b2⟩ := h2 m H k hM hg.2
    exact ⟨vs, us, a1, a2, by simp [pairs, b1.length, b2.length]⟩
  yld := fun i m H x H' d k hM hg e y => by
    obtain ⟨vs, a1, b1⟩ := h1 m H k hM hg.1
    obtain ⟨us, a2, b2⟩ := h2 m H k hM hg.2
    obtain ⟨A, x1, x2, rfl, hA, rfl, y1, y2⟩ := y
    have e' : (pairs T1.items T2.items)[i]? = some d := e
    simp only [pairs, List.getElem?_map, Option.map_eq_some_iff] at e'
    obtain ⟨⟨d1, d2⟩, ez, rfl⟩ := e'
    have ez' := List.getElem?_zip_eq_some.mp ez
    obtain ⟨w1, q1, v1⟩ := b1.get ez'.1
    obtain ⟨w2, q2, v2⟩ := b2.get ez'.2
    rw [y1 vs a1] at q1; cases q1
    rw [y2 us a2] at q2; cases q2
    have kn : Keep K H (upd H A (.tup [x1, x2])) := keep_upd (by rw [hA]; trivial)
    refine ⟨kn, hM.new hA, ?_⟩
    simp only [DV]
    exact ⟨A, _, rfl, upd_same, .cons (v1.keep kn) (.cons (v2.keep kn) .nil)⟩
theorem it_enum {K : PySem.W.Frag} {H0 : Hp} {k1 : SK} {T1 : ItD} (h1 : ∀ m' H', Keep K H0 H' → MemOk K m' H' → T1.G m' → ∃ vs, SkOk K H' k1 vs ∧ DVs K H' T1.items vs) :
    IterOk K H0 (Je K k1) ⟨T1.G, numbered T1.items⟩ where
  go := fun i m H k hM hg hi => by
    obtain ⟨vs, a1, b1⟩ := h1 m H k hM hg
    have hi' : i < T1.items.length := by simpa [numbered] using hi
    obtain ⟨v, e, _⟩ := b1.get (i := i) (List.getElem?_eq_getElem hi')
    exact ⟨vs, v, a1, e⟩
  stop := fun m H k hM hg => by
    obtain ⟨vs, a1, b1⟩ := h1 m H k hM hg
    exact ⟨vs, a1, by simp [numbered, b1.length]⟩
  yld := fun i m H x H' d k hM hg e y => by
    obtain ⟨vs, a1, b1⟩ := h1 m H k hM hg
    obtain ⟨A, x1, rfl, hA, rfl, y1⟩ := y
    have e' : (numbered T1.items)[i]? = some d := e
    simp only [numbered, List.getElem?_map, List.getElem?_zipIdx, Option.map_map, Option.map_eq_some_iff] at e'
    obtain ⟨d1, ez, rfl⟩ := e'
    obtain ⟨w1, q1, v1⟩ := b1.get ez
    rw [y1 vs a1] at q1; cases q1
    have kn : Keep K H (upd H A (.tup [.int (i : Nat), x1])) := keep_upd (by rw [hA]; trivial)
    refine ⟨kn, hM.new hA, ?_⟩
    simp only [DV, Function.comp]
    exact ⟨A, _, rfl, upd_same, .cons (by simp only [DV, Nat.zero_add]) (.cons (v1.keep kn) .nil)⟩
section
variable {X : Cx} {W : WX} {pos : Pos}
theorem iv_zip {a b : Expr} {as : EA} {p tpos : Pos} {elts : List Expr} {kk : Nat} (hm : X.mg "zip" = none) (ha : PA X [a, b] (RA X.K W as)) (hg : Gl X "zip" := by rfl)
    (hs : starEach [a, b] X.env = (false, eval a X.env) :: starEach [b] X.env := by rfl) (hpl : (backTo pos (starEach [b] X.env)).any (·.1) = false := by rfl) :
    PI X (.Tuple elts kk tpos) (.Call (.Name "zip" p) [a, b] [] pos) (RI X.K W (iZip2 as)) := by
  refine ⟨fun pins s σ H R I ⟨e, m, Q0, X0, hE, hM, h, hQ, hX⟩ => ?_⟩
  refine Call_ (ld_blt I hg hm PyProof.Rows.boot_zip (PyProof.Rows.callWith_type1 (thn (ha.run pos pins s σ H (fun vs H1 => ∃ ds m1, (match ds with
    | [x, y] => iterQ x m1 fun T1 m2 => iterQ y m2 fun T2 m3 => Q0 ⟨fun m' => T1.G m' ∧ T2.G m', pairs T1.items T2.items⟩ m3
    | _ => False) ∧ Keep X.K H H1 ∧ MemOk X.K m1 H1 ∧ DVs X.K H1 ds vs) I ⟨e, m, _, X0, hE, hM, h, fun ds m' H' v q k hM' dv => ⟨ds, m', q, k, hM', dv⟩, hX⟩) fun us s1 ⟨vs, H1, I1, r1, ds, m1, q, k, hM1, dv⟩ => ?_) hs hpl))
  split at q
  · rename_i x y
    obtain ⟨v1, r, rfl, dv1, dv2⟩ := dv.un
    obtain ⟨v2, r2, rfl, dv2, dv3⟩ := dv2.un
    rw [dv3.un0] at r1
    cases r1 with
    | cons ru rr =>
      cases rr with
      | cons ru2 rr =>
        cases rr
        obtain ⟨k1, T1, xs, rfl, q, ok1, f1⟩ := iterQ_src q hM1 dv1 ru
        obtain ⟨k2, T2, ys, rfl, q, ok2, f2⟩ := iterQ_src q hM1 dv2 ru2
        obtain ⟨H1', B1, b1, l1⟩ := SkB I1 ok1
        obtain ⟨H2', B2, b2, l2⟩ := SkB I1 ok2
        refine zip_begins2 B1 B2 b1 b2 fun h' hz hTI hTO g1 g2 hsz hk => wpAny_pyIter_zip hz ?_
        have I2 : Inv X pins σ H1 { s1 with heap := h' } := I1.kept (t' := s1.toks) hk
        have nf : ∀ {k : SK} (l : ∀ b ∈ SkF k, b < s1.heap.objs.size) (j : Nat), s1.heap.objs.size + j ∉ SkF k := fun l j hb => absurd (l _ hb) (Nat.not_lt.mpr (Nat.le_add_right _ _))
        have S := zipSep s1.heap.objs.size l1 l2
        refine ⟨s1.heap.objs.size + 4, [s1.heap.objs.size + 4, s1.heap.objs.size + 2, s1.heap.objs.size + 3, s1.heap.objs.size, s1.heap.objs.size + 1], _, _, H1, rfl, I2, turn_zipK S (nf l1 0) (nf l2 1), ⟨hz, hTI, ⟨_, _, hTO⟩, SkC.new g1, SkC.new g2⟩, fun c hcm => ?_, hQ _ m1 H1 _ q k hM1 (it_zip f1 f2)⟩
        have e' : c = s1.heap.objs.size + 4 ∨ c = s1.heap.objs.size + 2 ∨ c = s1.heap.objs.size + 3 ∨ c = s1.heap.objs.size ∨ c = s1.heap.objs.size + 1 := by simpa using hcm
        have hle : s1.heap.objs.size ≤ c := by rcases e' with z | z | z | z | z <;> rw [z] <;> first | exact Nat.le_add_right _ _ | exact Nat.le_refl _
        exact I1.fpOk hle (I1.hok.fresh hle)
  · exact q.elim
theorem iv_enum {a : Expr} {as : EA} {p tpos : Pos} {elts : List Expr} {kk : Nat} (hm : X.mg "enumerate" = none) (ha : PA X [a] (RA X.K W as)) (hg : Gl X "enumerate" := by rfl)
    (hs : starEach [a] X.env = [(false, eval a X.env)] := by rfl) :
    PI X (.Tuple elts kk tpos) (.Call (.Name "enumerate" p) [a] [] pos) (RI X.K W (iEn as)) := by
  refine ⟨fun pins s σ H R I ⟨e, m, Q0, X0, hE, hM, h, hQ, hX⟩ => ?_⟩
  refine Call_ (ld_blt I hg hm boot_enumerate (PyProof.Rows.callWith_type1 (thn (ha.run pos pins s σ H (fun vs H1 => ∃ ds m1, (match ds with
    | [x] => iterQ x m1 fun T m2 => Q0 ⟨T.G, numbered T.items⟩ m2
    | _ => False) ∧ Keep X.K H H1 ∧ MemOk X.K m1 H1 ∧ DVs X.K H1 ds vs) I ⟨e, m, _, X0, hE, hM, h, fun ds m' H' v q k hM' dv => ⟨ds, m', q, k, hM', dv⟩, hX⟩) fun us s1 ⟨vs, H1, I1, r1, ds, m1, q, k, hM1, dv⟩ => ?_) hs rfl))
  split at q
  · rename_i x
    obtain ⟨v1, r, rfl, dv1, dv2⟩ := dv.un
    rw [dv2.un0] at r1
    cases r1 with
    | cons ru rr =>
      cases rr
      obtain ⟨k1, T1, xs, rfl, q, ok1, f1⟩ := iterQ_src q hM1 dv1 ru
      obtain ⟨H1', B1, b1, l1⟩ := SkB I1 ok1
      refine enum_begins1 B1 b1 fun h' he g1 hsz hk => wpAny_pyIter_enum he ?_
      have I2 : Inv X pins σ H1 { s1 with heap := h' } := I1.kept (t' := s1.toks) hk
      have nf : ∀ (j : Nat), s1.heap.objs.size + j ∉ SkF k1 := fun j hb => absurd (l1 _ hb) (Nat.not_lt.mpr (Nat.le_add_right _ _))
      refine ⟨s1.heap.objs.size + 1, [s1.heap.objs.size + 1, s1.heap.objs.size], _, _, H1, rfl, I2, turn_enumK (Nat.succ_ne_self _) (nf 1) (nf 0), ⟨⟨.none, he⟩, SkC.new g1⟩, fun c hcm => ?_, hQ _ m1 H1 _ q k hM1 (it_enum f1)⟩
      have e' : c = s1.heap.objs.size + 1 ∨ c = s1.heap.objs.size := by simpa using hcm
      have hle : s1.heap.objs.size ≤ c := by rcases e' with z | z <;> rw [z] <;> first | exact Nat.le_add_right _ _ | exact Nat.le_refl _
      exact I1.fpOk hle (I1.hok.fresh hle)
  · exact q.elim
end
end L2.EV
set_option maxHeartbeats 1000000
/-! EV12: a def keeps its promise. -/
namespace L2.EV
open PySem PySem.Spec PyProof.Rows
def startD (n : Nat) (ds : List D) : Sl := ds.map some ++ List.replicate (n - ds.length) none
theorem startD_ok {K : PySem.W.Frag} {H : Hp} {N : List Str} {ds : List D} {vs : List V} (h : DVs K H ds vs) : SlOk K H (startD N.length ds) (start N vs) := by
  have hl := h.length
  refine ⟨by simp [startD, start, hl], fun i d e => ?_⟩
  by_cases hi : i < ds.length
  · unfold startD at e
    rw [List.getElem?_append_left (by simpa using hi), List.getElem?_map] at e
    cases q : ds[i]? with
    | none => rw [q] at e; cases e
    | some d' =>
      rw [q] at e
      simp only [Option.map_some, Option.some.injEq] at e
      subst e
      obtain ⟨v, h1, h2⟩ := h.get q
      refine ⟨v, ?_, h2⟩
      unfold start
      rw [List.getElem?_append_left (by rw [List.length_map, hl]; exact hi), List.getElem?_map, h1]
      rfl
  · unfold startD at e
    rw [List.getElem?_append_right (by simpa using hi), List.getElem?_replicate] at e
    split at e <;> simp at e
def zsOf (Q : QD) (X : XD) : Zs := { nx := fun _ m => Q .non m, rt := Q, bk := fun _ _ => False, ct := fun _ _ => False, ex := fun c d _ m => X c d m }
abbrev wE (E : XK) : WX := fun c d _ H => E c d H
section
variable {P : Program} {w : World} {K : PySem.W.Frag} {mg : Str → Option Value} {base : Heap} {k n : Nat} {g : SPEC} {dd : List D} {f : Addr} {fd : FuncData} {x qual : Str} {pa : Arguments} {body : List Stmt} {sc : Scope} {dvs dvs' : List V} {kws : List (Str × V)} {N ps : List Str} {ds : List Value} {r : ES}
theorem fnA_of (F : FunD K x qual pa body sc dvs kws f fd) (S : FnScope N ps sc) (hb : Binds K fd ps ds) (hv : Vals dvs' ds) (hdd : ∀ H, DVs K H dd dvs') (ar : ∀ ds m Q X, g ds m Q X → ds.length = ps.length)
    (hw : ∀ (cdv : Value) (A : Around) (outer : List Env) (s : Shared) (H : Hp) (E : XK), Room k (A.deeper (envOfC qual sc s.heap.objs.size f cdv)) → PSs (cxOf (L2.CX P w) P w K mg base N qual sc f cdv A outer s H E) body (RS K (wE E) r))
    (hl : ∀ ds m Q X, g ds m Q X → r (startD N.length ds) m (zsOf Q X)) : FnA P w K mg base (k + 1) ps.length g dd f := by
  refine ⟨⟨fd, ps, ds, dvs', ?_, hb, hv, hdd⟩, ar⟩
  refine F.ok S (fun vs H Q E h => h.1) fun cdv A outer s H vs Q E hr ⟨_, ds, m, Q0, X0, hM, hd, h, hQ, hX⟩ => ⟨_, hw cdv A outer s H E hr, ?_⟩
  refine ⟨startD N.length ds, m, zsOf Q0 X0, startD_ok hd, hM, hl ds m Q0 X0 h, ?_⟩
  exact ⟨fun e' m' σ' H' q k hE hM' => hQ _ m' H' _ q k hM' (by simp only [DV]), fun d m' H' v q k hM' dv => hQ d m' H' v q k hM' dv, fun _ _ _ _ q => q.elim, fun _ _ _ _ q => q.elim, fun c dx e' m' σ' H' q k _ hM' => hX c dx m' H' q k hM'⟩
/-- without defaults -/
theorem fnA_N (F : FunD K x qual pa body sc [] kws f fd) (S : FnScope N ps sc)
    (hb : ∀ (kV doc pm : Value) (an : Option Addr) (cdv ct : Value) (us : List Value), us.length = ps.length → bindArgs (PySem.W.fnOf x qual pa body sc .none kV doc pm an cdv ct) ⟨us, []⟩ = pure (ps.zip us))
    (ar : ∀ ds m Q X, g ds m Q X → ds.length = ps.length)
    (hw : ∀ (cdv : Value) (A : Around) (outer : List Env) (s : Shared) (H : Hp) (E : XK), Room k (A.deeper (envOfC qual sc s.heap.objs.size f cdv)) → PSs (cxOf (L2.CX P w) P w K mg base N qual sc f cdv A outer s H E) body (RS K (wE E) r))
    (hl : ∀ ds m Q X, g ds m Q X → r (startD N.length ds) m (zsOf Q X)) : FnA P w K mg base (k + 1) ps.length g [] f :=
  fnA_of F S (F.bindsN hb) .nil (fun _ => .nil) ar hw hl
/-- an idle promise -/
theorem FnA.weaken {g' : SPEC} (F : FnA P w K mg base k n g dd f) (h : ∀ ds m Q X, g' ds m Q X → g ds m Q X) : FnA P w K mg base k n g' dd f := by
  obtain ⟨⟨fd, ps, ds, dvs, h1, h2, h3, h4⟩, ar⟩ := F
  exact ⟨⟨fd, ps, ds, dvs, h1.imp fun vs H Q E ⟨hl, ds, m, Q0, X0, hM, hd, hg, hQ, hX⟩ => ⟨hl, ds, m, Q0, X0, hM, hd, h _ _ _ _ hg, hQ, hX⟩, h2, h3, h4⟩, fun ds m Q X q => ar _ _ _ _ (h _ _ _ _ q)⟩
end
/-! ### what a module's top tells -/
section
variable {K : PySem.W.Frag} {mg : Str → Option Value} {x : Str}
theorem gv_int {i : Int} (h : ∃ t, mg x = some (.int i t)) : GV K mg x (.int i) := let ⟨t, e⟩ := h; ⟨_, .int i, e, ⟨t, rfl⟩, fun _ => by simp only [DV]⟩
theorem gv_str {z : Str} (h : ∃ t, mg x = some (.str z t)) : GV K mg x (.str z) := let ⟨t, e⟩ := h; ⟨_, .str z, e, ⟨t, rfl⟩, fun _ => by simp only [DV]⟩
theorem gv_glo (h : mg x = some (.ref (He.ga K x))) : GV K mg x (.glob x) := ⟨_, .ref (He.ga K x), h, rfl, fun _ => by simp only [DV]⟩
end
theorem roomU {k j : Nat} {A : Around} (r : Room k A) (h : j ≤ 200 := by decide) : A.units + j < cLine := by have := r.un; omega
end L2.EV
set_option maxHeartbeats 1000000
/-! EV13: built-in calls and methods by name; reversed text. -/
namespace L2.EV
open PySem PySem.Spec PyProof.Rows
section
variable {X : Cx} {W : WX} {pos p apos : Pos} {e o : Expr} {es : List Expr} {as : EA} {ro : EE}
theorem b_len (hm : X.mg "len" = none) (ha : PA X (e :: es) (RA X.K W as)) (hg : Gl X "len" := by rfl) (h1 : starEach (e :: es) X.env = (false, eval e X.env) :: starEach es X.env := by rfl) (h2 : (backTo pos (starEach es X.env)).any (·.1) = false := by rfl) : PE X (.Call (.Name "len" p) (e :: es) [] pos) (RE X.K W (eB bLen as)) := ev_callB c_len hm boot_len ha hg (he := h1) (hpl := h2)
theorem b_isi (hm : X.mg "isinstance" = none) (ha : PA X (e :: es) (RA X.K W as)) (hg : Gl X "isinstance" := by rfl) (h1 : starEach (e :: es) X.env = (false, eval e X.env) :: starEach es X.env := by rfl) (h2 : (backTo pos (starEach es X.env)).any (·.1) = false := by rfl) : PE X (.Call (.Name "isinstance" p) (e :: es) [] pos) (RE X.K W (eB bIsi as)) := ev_callB c_isi hm (by decide +kernel) ha hg (he := h1) (hpl := h2)
theorem b_sum (hc : X.calm = true) (hm : X.mg "sum" = none) (ha : PA X (e :: es) (RA X.K W as)) (hg : Gl X "sum" := by rfl) (h1 : starEach (e :: es) X.env = (false, eval e X.env) :: starEach es X.env := by rfl) (h2 : (backTo pos (starEach es X.env)).any (·.1) = false := by rfl) : PE X (.Call (.Name "sum" p) (e :: es) [] pos) (RE X.K W (eB bSum as)) := ev_callB (c_sum hc) hm (by decide +kernel) ha hg (he := h1) (hpl := h2)
theorem b_all (hc : X.calm = true) (hm : X.mg "all" = none) (ha : PA X (e :: es) (RA X.K W as)) (hg : Gl X "all" := by rfl) (h1 : starEach (e :: es) X.env = (false, eval e X.env) :: starEach es X.env := by rfl) (h2 : (backTo pos (starEach es X.env)).any (·.1) = false := by rfl) : PE X (.Call (.Name "all" p) (e :: es) [] pos) (RE X.K W (eB bAll as)) := ev_callB (c_all hc) hm (by decide +kernel) ha hg (he := h1) (hpl := h2)
theorem b_any (hc : X.calm = true) (hm : X.mg "any" = none) (ha : PA X (e :: es) (RA X.K W as)) (hg : Gl X "any" := by rfl) (h1 : starEach (e :: es) X.env = (false, eval e X.env) :: starEach es X.env := by rfl) (h2 : (backTo pos (starEach es X.env)).any (·.1) = false := by rfl) : PE X (.Call (.Name "any" p) (e :: es) [] pos) (RE X.K W (eB bAny as)) := ev_callB (c_any hc) hm (by decide +kernel) ha hg (he := h1) (hpl := h2)
theorem b_abs (hm : X.mg "abs" = none) (ha : PA X (e :: es) (RA X.K W as)) (hg : Gl X "abs" := by rfl) (h1 : starEach (e :: es) X.env = (false, eval e X.env) :: starEach es X.env := by rfl) (h2 : (backTo pos (starEach es X.env)).any (·.1) = false := by rfl) : PE X (.Call (.Name "abs" p) (e :: es) [] pos) (RE X.K W (eB bAbs as)) := ev_callB c_abs hm (by decide +kernel) ha hg (he := h1) (hpl := h2)
theorem b_int (hm : X.mg "int" = none) (ha : PA X (e :: es) (RA X.K W as)) (hg : Gl X "int" := by rfl) (h1 : starEach (e :: es) X.env = (false, eval e X.env) :: starEach es X.env := by rfl) (h2 : (backTo pos (starEach es X.env)).any (·.1) = false := by rfl) : PE X (.Call (.Name "int" p) (e :: es) [] pos) (RE X.K W (eB bInt as)) := ev_callTy c_int hm (by decide +kernel) ha hg (he := h1) (hpl := h2)
theorem b_tuple (hm : X.mg "tuple" = none) (ha : PA X (e :: es) (RA X.K W as)) (hg : Gl X "tuple" := by rfl) (h1 : starEach (e :: es) X.env = (false, eval e X.env) :: starEach es X.env := by rfl) (h2 : (backTo pos (starEach es X.env)).any (·.1) = false := by rfl) : PE X (.Call (.Name "tuple" p) (e :: es) [] pos) (RE X.K W (eB bTuple as)) := ev_callTy c_tuple hm (by decide +kernel) ha hg (he := h1) (hpl := h2)
theorem b_list (hc : X.calm = true) (hm : X.mg "list" = none) (ha : PA X (e :: es) (RA X.K W as)) (hg : Gl X "list" := by rfl) (h1 : starEach (e :: es) X.env = (false, eval e X.env) :: starEach es X.env := by rfl) (h2 : (backTo pos (starEach es X.env)).any (·.1) = false := by rfl) : PE X (.Call (.Name "list" p) (e :: es) [] pos) (RE X.K W (eB bList as)) := ev_callTy (c_list hc) hm (by decide +kernel) ha hg (he := h1) (hpl := h2)
theorem b_append (ho : PE X o (RE X.K W ro)) (ha : PA X (e :: es) (RA X.K W as)) (hbase : attributeBase o "append" X.env (eval o X.env) = eval o X.env := by rfl)
    (hfew : ((backTo pos (starEach (e :: es) X.env)).all (fun x => !x.1) && (backToKw pos (keywordEach [] X.env)).all (fun x => x.1.isSome) && decide ((e :: es).length + ([] : List Keyword).length + (if ([] : List Keyword).isEmpty then 0 else 1) < 30)) = true := by rfl)
    (hline : (apos.endLine == pos.line) = true := by rfl) (hs : starEach (e :: es) X.env = (false, eval e X.env) :: starEach es X.env := by rfl) (hplain : (backTo pos (starEach es X.env)).any (·.1) = false := by rfl) :
    PE X (.Call (.Attribute o "append" apos) (e :: es) [] pos) (RE X.K W (eM isLst mAppend ro as)) := ev_m F.plainAttrs_list F.slot_list_append F.type_list_append m_append (fun hM hd h => isLst_dv hM hd h) ho ha hbase hfew hline hs hplain
theorem b_extend (ho : PE X o (RE X.K W ro)) (ha : PA X (e :: es) (RA X.K W as)) (hbase : attributeBase o "extend" X.env (eval o X.env) = eval o X.env := by rfl)
    (hfew : ((backTo pos (starEach (e :: es) X.env)).all (fun x => !x.1) && (backToKw pos (keywordEach [] X.env)).all (fun x => x.1.isSome) && decide ((e :: es).length + ([] : List Keyword).length + (if ([] : List Keyword).isEmpty then 0 else 1) < 30)) = true := by rfl)
    (hline : (apos.endLine == pos.line) = true := by rfl) (hs : starEach (e :: es) X.env = (false, eval e X.env) :: starEach es X.env := by rfl) (hplain : (backTo pos (starEach es X.env)).any (·.1) = false := by rfl) :
    PE X (.Call (.Attribute o "extend" apos) (e :: es) [] pos) (RE X.K W (eM isLst mExtend ro as)) := ev_m F.plainAttrs_list F.slot_list_extend F.type_list_extend m_extend (fun hM hd h => isLst_dv hM hd h) ho ha hbase hfew hline hs hplain
theorem b_index (hu : X.A.units + 66 < cLine) (ho : PE X o (RE X.K W ro)) (ha : PA X (e :: es) (RA X.K W as)) (hbase : attributeBase o "index" X.env (eval o X.env) = eval o X.env := by rfl)
    (hfew : ((backTo pos (starEach (e :: es) X.env)).all (fun x => !x.1) && (backToKw pos (keywordEach [] X.env)).all (fun x => x.1.isSome) && decide ((e :: es).length + ([] : List Keyword).length + (if ([] : List Keyword).isEmpty then 0 else 1) < 30)) = true := by rfl)
    (hline : (apos.endLine == pos.line) = true := by rfl) (hs : starEach (e :: es) X.env = (false, eval e X.env) :: starEach es X.env := by rfl) (hplain : (backTo pos (starEach es X.env)).any (·.1) = false := by rfl) :
    PE X (.Call (.Attribute o "index" apos) (e :: es) [] pos) (RE X.K W (eM isLst mIndex ro as)) := ev_m F.plainAttrs_list F.slot_list_index F.type_list_index (m_index hu) (fun hM hd h => isLst_dv hM hd h) ho ha hbase hfew hline hs hplain
theorem b_join (ho : PE X o (RE X.K W ro)) (ha : PA X (e :: es) (RA X.K W as)) (hbase : attributeBase o "join" X.env (eval o X.env) = eval o X.env := by rfl)
    (hfew : ((backTo pos (starEach (e :: es) X.env)).all (fun x => !x.1) && (backToKw pos (keywordEach [] X.env)).all (fun x => x.1.isSome) && decide ((e :: es).length + ([] : List Keyword).length + (if ([] : List Keyword).isEmpty then 0 else 1) < 30)) = true := by rfl)
    (hline : (apos.endLine == pos.line) = true := by rfl) (hs : starEach (e :: es) X.env = (false, eval e X.env) :: starEach es X.env := by rfl) (hplain : (backTo pos (starEach es X.env)).any (·.1) = false := by rfl) :
    PE X (.Call (.Attribute o "join" apos) (e :: es) [] pos) (RE X.K W (eM isStr mJoin ro as)) := ev_m F.plainAttrs_str F.slot_str_join F.type_str_join m_join (fun hM hd h => isStr_dv hM hd h) ho ha hbase hfew hline hs hplain
theorem b_pop (ho : PE X o (RE X.K W ro)) (hbase : attributeBase o "pop" X.env (eval o X.env) = eval o X.env := by rfl) (hline : (apos.endLine == pos.line) = true := by rfl) :
    PE X (.Call (.Attribute o "pop" apos) [] [] pos) (RE X.K W (eM isLst mPop ro aNil)) := ev_m0 F.plainAttrs_list F.slot_list_pop F.type_list_pop m_pop (fun hM hd h => isLst_dv hM hd h) ho hbase hline
theorem b_pop1 (ho : PE X o (RE X.K W ro)) (ha : PA X (e :: es) (RA X.K W as)) (hbase : attributeBase o "pop" X.env (eval o X.env) = eval o X.env := by rfl)
    (hfew : ((backTo pos (starEach (e :: es) X.env)).all (fun x => !x.1) && (backToKw pos (keywordEach [] X.env)).all (fun x => x.1.isSome) && decide ((e :: es).length + ([] : List Keyword).length + (if ([] : List Keyword).isEmpty then 0 else 1) < 30)) = true := by rfl)
    (hline : (apos.endLine == pos.line) = true := by rfl) (hs : starEach (e :: es) X.env = (false, eval e X.env) :: starEach es X.env := by rfl) (hplain : (backTo pos (starEach es X.env)).any (·.1) = false := by rfl) :
    PE X (.Call (.Attribute o "pop" apos) (e :: es) [] pos) (RE X.K W (eM isLst mPop ro as)) := ev_m F.plainAttrs_list F.slot_list_pop F.type_list_pop m_pop (fun hM hd h => isLst_dv hM hd h) ho ha hbase hfew hline hs hplain
end
end L2.EV
set_option maxHeartbeats 2000000
/-! EV14: own exceptions whose __init__ says super().__init__(text) and keeps one field; made, raised. -/
namespace PySem
namespace ExS
open PySem.W PySem.Calls PyProof.Rows PySem.HandSPX
abbrev veL : List Value := [.type "ValueError", .type "Exception", .type "BaseException", .type "object"]
/-- the text that is handed to the base's __init__: it reads at most the parameter p -/
def MsgOk (prog : Program) (w : World) (msg : Expr) (p : Str) (ok : Value → Prop) : Prop := ∀ (A : Around) (E : Value → Shared → Prop) (env : Env) (m : Str → Option Value) (s : Shared) (v : Value) (Q : Value → Shared → Prop),
  s.heap.Ns env.locals m → m p = some v → env.scope.kind = .function → env.kindOf p = some .local → (p == ("__debug__" : Str)) = false → ok v → (∀ u t', Q u { s with toks := t' }) → wpAny (model prog w) A (eval msg env) Q E s
theorem msg_const {prog : Program} {w : World} {z : Str} {k : Nat} {q : Pos} {p : Str} : MsgOk prog w (.Constant (.str z) k q) p (fun _ => True) := fun A E env m s v Q _ _ _ _ _ _ h => wpAny_Constant_str (h _ _)
def intOk (v : Value) : Prop := ∃ i t, v = .int i t ∧ i.natAbs.log2 < 1920
theorem msg_int {prog : Program} {w : World} {a b p : Str} {k1 k2 : Nat} {q1 q2 q3 q4 q5 : Pos} (ha : a.length ≤ 100) (hb : b.length ≤ 100) :
    MsgOk prog w (.JoinedStr [.Constant (.str a) k1 q1, .FormattedValue (.Name p q2) (-1) none q3, .Constant (.str b) k2 q4] q5) p intOk := fun A E env m s v Q hn hv hk hl hd ⟨i, t, ev, hi⟩ h => by
  have len2 : ∀ x y : Str, (x ++ y).length = x.length + y.length := fun x y => PySem.strLen_append x y
  have e0 : (Str.empty : Str).length = 0 := rfl
  have li := int_text_len_1921 hi
  have hz : sizeLine = 16777216 := sizeLine_eq
  refine wpAny_JoinedStr ?_
  have e1 : evalEach [.Constant (.str a) k1 q1, .FormattedValue (.Name p q2) (-1) none q3, .Constant (.str b) k2 q4] env = [eval (.Constant (.str a) k1 q1) env, eval (.FormattedValue (.Name p q2) (-1) none q3) env, eval (.Constant (.str b) k2 q4) env] := by first | rfl | simp [evalEach]
  rw [e1]
  refine wpAny_Constant_str ⟨_, _, rfl, by rw [len2, e0, hz]; omega, ?_⟩
  refine wpAny_FormattedValue_plain ?_
  refine wpAny_Name (wpAny_loadName_local hk hl hn hv ?_) hd
  subst ev
  refine wpAny_formatField_int hi ⟨_, _, rfl, by rw [len2, len2, e0, hz]; omega, ?_⟩
  refine wpAny_Constant_str ⟨_, _, rfl, by rw [len2, len2, len2, e0, hz]; omega, ?_⟩
  exact ⟨by rw [len2, len2, len2, e0, hz]; omega, h _ _⟩
/-- what the written part says of a class C, whose __init__ (of the class D) stands at fI -/
structure ExTxt (prog : Program) (K : Frag) (C D fI : Addr) (p fld : Str) (msg : Expr) : Prop where
  cls : excInitIn K C veL "ValueError.__new__" = true
  ref : (clsIn K C).any (fun cd => refsVE cd.mro && cd.hasDict) = true
  sa : findIn K (.ref C) "__setattr__" = some (some (.builtin "object.__setattr__"))
  noN : findIn K (.ref C) fld = some none
  iC : findIn K (.ref C) "__init__" = some (some (.ref fI))
  tC : typeIn K (.ref fI) = some (.type "function")
  kC : keepIn K (.ref C) = true
  exC : subIn K (.ref C) (.type "BaseException") = some true
  veC : subIn K (.ref C) (.type "ValueError") = some true
  tyC : typeIn K (.ref C) = some (.type "type")
  cD : (clsIn K D).isSome = true
  mD : mroIn K C (.ref D) = some true
  sup : nsIn K mainGlobals "super" = some none
  any : nsIn K cStatics "thirdparty.any" = some none
  up : ks_superIn K C D "__init__" = some (some (.builtin "ValueError.__init__"))
  top : (prog.main.scope.names.lookup ("super" : Str)).isSome = false
  fn : ∃ (oc : Value) (od : Option Addr) (qual : Str) (pa : Arguments) (nms : List (Str × NameKind)) (mo : List (Str × Const)) (dV kV doc pm : Value) (an : Option Addr) (cda : Addr) (ct : Value) (osl : Array (Option Value)) (cc : Addr) (cl : Value) (cld : Option Addr) (csl : Array (Option Value)) (ccl : Value) (cdd : Option Addr) (ccs : Array (Option Value)) (vs : Array Value) (file : Str) (tf : Tok) (q1 q2 q3 q4 q5 q6 q7 q8 q9 : Pos) (ar : Arg),
    K.lookup fI = some ⟨oc, od, .func (ksFn "__init__" qual pa [.Expr (.Call (.Attribute (.Call (.Name "super" q1) [] [] q2) "__init__" q3) [msg] [] q4) q5, .Assign [.Attribute (.Name "self" q6) fld q7] (.Name p q8) q9] ⟨.function, nms, false, false, mo⟩ dV kV doc pm an (.ref cda) ct cc), osl⟩ ∧
    codeIn K (.ref cda) qual = true ∧ K.lookup cda = some ⟨ccl, cdd, .fields vs, ccs⟩ ∧ vs[2]? = some (.str file tf) ∧ ((prog.main.file : Str) == file) = true ∧ K.lookup cc = some ⟨cl, cld, .cell (some (.ref D)), csl⟩ ∧
    (pa.posonlyargs ++ pa.args).head? = some ar ∧ ar.arg = "self" ∧
    (∀ us : List Value, us.length = 2 → bindArgs (ksFn "__init__" qual pa [.Expr (.Call (.Attribute (.Call (.Name "super" q1) [] [] q2) "__init__" q3) [msg] [] q4) q5, .Assign [.Attribute (.Name "self" q6) fld q7] (.Name p q8) q9] ⟨.function, nms, false, false, mo⟩ dV kV doc pm an (.ref cda) ct cc) ⟨us, []⟩ = pure ((["self", p] : List Str).zip us)) ∧
    (∀ x ∈ nms, x.2 ≠ .cell) ∧ nms.lookup ("super" : Str) = some .globalImplicit ∧ nms.lookup ("__class__" : Str) = some .free ∧ nms.lookup ("self" : Str) = some .local ∧ nms.lookup p = some .local ∧
    (p == ("__debug__" : Str)) = false ∧ p ≠ "self" ∧ (q3.endLine == q4.line) = true ∧ (∀ env, starEach [msg] env = [(false, eval msg env)])
theorem one_size (v : Value) : [v].length ≤ sizeLine := by
  rw [sizeLine_eq]
  exact (by decide : 1 ≤ 16777216)
/-- a made exception -/
structure OwnMade (h h' : Heap) (e C d : Addr) (f : Str) (v : Value) : Prop where
  keep : ∀ b o, h.get? b = some o → h'.get? b = some o
  new : h.objs.size ≤ e
  obj : ∃ oe vs, h'.get? e = some oe ∧ oe.cls = .ref C ∧ oe.dict = some d ∧ oe.data = .fields vs ∧ vs[1]? = some .none
  dbig : h.objs.size ≤ d
  dne : d ≠ e
  ns : h'.Ns1 d (fun y => if y = f then some v else none)
section
variable {prog : Program} {w : World} {A : Around} {E : Value → Shared → Prop} {R : Result → Shared → Prop} {K : Frag} {mg : Str → Option Value} {C D fI : Addr} {p fld : Str} {msg : Expr} {ok : Value → Prop}
theorem ex_init (T : ExTxt prog K C D fI p fld msg) (MO : MsgOk prog w msg p ok) {h : Heap} {s : Shared} {x t0 : Addr} {v : Value} (X : K.In h) (hlim : h.NoLimit) (G : h.Ns mainGlobals mg) (BL : ∃ mb, h.Ns builtinsNs mb ∧ ∀ y : Str, y ≠ "__name__" → mb y = bootBuiltins y) (hv : ok v)
    (ks : ∀ b o, h.get? b = some o → s.heap.get? b = some o) (hx : s.heap.get? x = some (excO C t0)) (hnx : h.get? x = none) (hsz : h.objs.size ≤ s.heap.objs.size) (hroom : A.depth < recursionLimit)
    (hq : ∀ h' tk dx t1, (∀ b o, h.get? b = some o → h'.get? b = some o) → h'.get? x = some { cls := .ref C, dict := some dx, data := .fields #[.ref t1, .none, .none, .none, .bool false, .none] } → h.objs.size ≤ dx → dx ≠ x →
      h'.Ns1 dx (fun y => if y = fld then some v else none) → R (.ok (.ret .none)) { s with heap := h', toks := tk }) :
    codeAny (model prog w) A (.call (.ref fI) ⟨[.ref x, v], []⟩) R s := by
  obtain ⟨oc, od, qual, pa, nms, mo, dV, kV, doc, pm, an, cda, ct, osl, cc, cl, cld, csl, ccl, cdd, ccs, vs, file, tf, q1, q2, q3, q4, q5, q6, q7, q8, q9, ar, ho, hcd, hcda, hvs, hfile, hcc, har, hars, hbind, hcell, kS, kC, kSelf, kP, hdb, hps, hline, hstar⟩ := T.fn
  have Xs : K.In s.heap := X.keeps ks
  obtain ⟨cdC, hcdC⟩ : ∃ cd, clsIn K C = some cd := by
    have := T.ref
    cases e : clsIn K C with
    | none => rw [e] at this; cases this
    | some cd => exact ⟨cd, rfl⟩
  have href := T.ref
  rw [hcdC] at href
  have href : (refsVE cdC.mro && cdC.hasDict) = true := href
  rw [Bool.and_eq_true] at href
  obtain ⟨cdD, hcdD⟩ := Option.isSome_iff_exists.mp T.cD
  have hb : BindsTo s (ksFn "__init__" qual pa [.Expr (.Call (.Attribute (.Call (.Name "super" q1) [] [] q2) "__init__" q3) [msg] [] q4) q5, .Assign [.Attribute (.Name "self" q6) fld q7] (.Name p q8) q9] ⟨.function, nms, false, false, mo⟩ dV kV doc pm an (.ref cda) ct cc) ⟨[.ref x, v], []⟩ [("self", .ref x), (p, v)] := BindsTo.of_eq (hbind [.ref x, v] rfl)
  refine ks_codeAny_call_defAt hroom (Xs _ _ ho) rfl (hlim.keeps ks) (codeRec_of Xs hcd) rfl hb hcell (fun y hy => ?_) (fun h₁ hns hk₁ => ?_) rfl rfl rfl
  · rcases List.mem_cons.mp hy with rfl | hy
    · exact kSelf
    · rw [List.mem_singleton.mp hy]; exact kP
  have hm1 : ([("self", Value.ref x), (p, v)] : List (Str × Value)).reverse.lookup ("self" : Str) = some (.ref x) := by
    have : (("self" : Str) == p) = false := by simpa using (Ne.symm hps)
    simp [List.lookup, this]
  have hm2 : ([("self", Value.ref x), (p, v)] : List (Str × Value)).reverse.lookup p = some v := by simp [List.lookup]
  have F1 : Fr h s.heap.objs.size h₁ (fun y => ([("self", Value.ref x), (p, v)] : List (Str × Value)).reverse.lookup y) := ⟨hns, fun b o e => hk₁ b o (ks b o e), hsz⟩
  have N1 : News h s.heap.objs.size h₁ [(x, excObj C t0 none .none)] := fun q hq => by
    rw [List.mem_singleton.mp hq]
    exact ⟨hk₁ _ _ hx, Nat.ne_of_lt (Heap.lt_size hx), hnx⟩
  -- super().__init__(msg)
  refine ks_wpAt_execs_cons ?_
  refine ks_wpAt_Expr_any ?_
  have he : ∀ env : Env, eval (.Call (.Attribute (.Call (.Name "super" q1) [] [] q2) "__init__" q3) [msg] [] q4) env = (do
      let ov ← attributeBase (.Call (.Name "super" q1) [] [] q2) "__init__" env (eval (.Call (.Name "super" q1) [] [] q2) env)
      standAt q3.atName
      let (f, first) ← holding [ov] (getMethod ov "__init__" (L2.plainOf (.Call (.Name "super" q1) [] [] q2) env))
      callWith q4 f first (backTo q4 (starEach [msg] env)) []) := fun env => by
    have e0 : eval (.Call (.Attribute (.Call (.Name "super" q1) [] [] q2) "__init__" q3) [msg] [] q4) env = (do
      let ov ← attributeBase (.Call (.Name "super" q1) [] [] q2) "__init__" env (eval (.Call (.Name "super" q1) [] [] q2) env)
      standAt q3.atName
      methodCall (.Call (.Name "super" q1) [] [] q2) "__init__" q3 q4 env ov 1 (backTo q4 (starEach [msg] env)) []) := by rfl
    rw [e0]
    refine congrArg _ (funext fun ov => ?_)
    refine congrArg _ (funext fun _ => ?_)
    exact L2.mcall_line (by rw [hstar]; rfl) hline
  refine ks_wpAt_MethodCall (he := he _) ?_
  have I1 : InstAt h₁ x (excObj C t0 none .none) C none := InstAt.of_exc0 (t := t0) (c2 := .none) N1 (by simp)
  obtain ⟨oD, hD1, hD2⟩ : ∃ oD, h₁.get? D = some oD ∧ oD.data = .cls cdD := by
    unfold clsIn at hcdD
    split at hcdD
    · rename_i c d cd' sl ho'
      cases hcdD
      exact ⟨_, (X.keeps F1.keep) _ _ ho', rfl⟩
    · cases hcdD
  obtain ⟨mb, hB1, hB2⟩ := BL
  refine ks_wpAt_super_base (fd := ksFn "__init__" qual pa _ ⟨.function, nms, false, false, mo⟩ dV kV doc pm an (.ref cda) ct cc) kS kC (by decide) rfl ((X.keeps F1.keep) _ _ ho) rfl har rfl ((X.keeps F1.keep) _ _ hcda) rfl hvs hfile T.top ?_
  refine ks_loadName_global rfl kS (loadGlobal_builtin (G.keeps F1.keep) (mg_none_of X G T.sup) (hB1.keeps F1.keep) ((hB2 _ (by decide +kernel)).trans (by decide +kernel : bootBuiltins "super" = some (.type "super"))) ⟨rfl, ?_⟩)
  refine wpAny_loadName_free rfl kC rfl ⟨_, (X.keeps F1.keep) _ _ hcc, rfl⟩ ?_
  rw [hars]
  refine wpAny_loadName_local rfl kSelf F1.ns hm1 ?_
  refine ks_wpAny_isType_cls hD1 hD2 ⟨rfl, ?_⟩
  refine ks_wpAny_call_super hD1 hD2 I1.at_ I1.cls (fun c e => by have := I1.no; unfold notCls at this; rw [e] at this; exact Bool.noConfusion this) (looks_mroIn (X.keeps F1.keep) T.mD) (fun h' e k => ?_)
  obtain ⟨F2, N2, l2⟩ := ks_newsPush (s := { s with heap := h₁, toks := s.toks + 2 }) F1 N1 rfl e k
  refine kxs_method kxs_ValueError F2 X N2 (List.mem_cons_self ..) (InstAt.of_exc0 (t := t0) (c2 := .none) N2 (by simp)) T.any T.up T.veC (by decide) (fun u h2 F3 N3 l3 => ?_)
  refine kxs_callWith1 (i := "ValueError.__init__") (x := x) N3 (List.mem_cons_self ..) ?_ ((hstar _).trans (by rfl)) (by rfl)
  rw [hstar]
  show wpAny _ _ (spliced [(false, eval msg _)]) _ _ _
  refine spliced_cons ?_
  refine MO _ _ _ _ _ v _ F3.ns hm2 rfl kP hdb hv (fun m tk3 => spliced_nil ⟨kxs_at N3 (List.mem_cons_self ..), ?_⟩)
  have ne1 : u ≠ x := fun z => by have := l3 (x, excObj C t0 none .none) (by simp); rw [z] at this; exact absurd this (Nat.lt_irrefl _)
  refine kxs_call (t := t0) (dv := none) (c2 := .none) F3 X N3 F.excBase_ValueError T.cls (List.mem_cons_self ..) (.tail ne1 (.tail (fun z => absurd (show x < h₁.objs.size from l2 (x, excObj C t0 none .none) (by simp)) (by rw [show h₁.objs.size = x from z]; exact Nat.lt_irrefl _)) (.head (by simp)))) (one_size m) (fun t1 h4 F4 N4 l4 => ?_)
  -- self.fld = p
  refine wpAt_of_wpAny (wpAny_execs_cons (plainObj_wpAny_Assign_Attribute ?_))
  refine wpAny_Name (wpAny_loadName_local rfl kP F4.ns hm2 ?_) hdb
  refine wpAny_Name (wpAny_loadName_local rfl kSelf F4.ns hm1 ?_) (by decide)
  have hx4 : h4.get? x = some (excObj C t1 none .none) := (N4 (x, excObj C t1 none .none) (by simp)).1
  refine set_plain (X.keeps F4.keep) (ox := excObj C t1 none .none) (od := none) ⟨hx4, rfl, rfl, trivial⟩ T.sa ?_
  refine exc_osa (X.keeps F4.keep) hx4 hcdC href.1 href.2 T.noN (fun h5 tk5 dx k5 dn dne hx5 hn5 => ?_)
  have hne : ∀ b o, h.get? b = some o → b ≠ x := fun b o e z => by rw [z, hnx] at e; cases e
  have hz : h.objs.size ≤ h4.objs.size := by
    obtain ⟨oL, es, ep, hL, r⟩ := F4.ns
    exact Nat.le_trans F4.above (Nat.le_of_lt (Heap.lt_size hL))
  exact wpAny_execs_nil (hq h5 tk5 dx t1 (fun b o e => k5 b o (hne b o e) (F4.keep b o e)) hx5 (Nat.le_trans hz dn) dne hn5)
theorem ex_made (T : ExTxt prog K C D fI p fld msg) (MO : MsgOk prog w msg p ok) {s : Shared} {v : Value} (X : K.In s.heap) (hlim : s.heap.NoLimit) (G : s.heap.Ns mainGlobals mg) (BL : ∃ mb, s.heap.Ns builtinsNs mb ∧ ∀ y : Str, y ≠ "__name__" → mb y = bootBuiltins y) (hv : ok v) (hroom : A.depth + 1 < recursionLimit)
    (hq : ∀ h' tk e d, OwnMade s.heap h' e C d fld v → R (.ok (.ret (.ref e))) { s with heap := h', toks := tk }) :
    codeAny (model prog w) A (.call (.ref C) ⟨[v], []⟩) R s := by
  obtain ⟨nm, N, qn, bs, bm, hdct, sn, sub, ab, col, dd, k0, k1, k2, k3, k5, hC, hT⟩ := excInit_of X T.cls
  obtain ⟨hp, g, dr, tk, os⟩ := s
  have k : ∀ b o, hp.get? b = some o → ((hp.push (kdv_tup [v])).push (excO C hp.objs.size)).get? b = some o := fun b o e => Heap.get?_push_of_some _ (Heap.get?_push_of_some _ e)
  have hget : ((hp.push (kdv_tup [v])).push (excO C hp.objs.size)).get? (hp.objs.size + 1) = some (excO C hp.objs.size) := by heap_get
  have hnx : hp.get? (hp.objs.size + 1) = none := by
    cases e : hp.get? (hp.objs.size + 1) with
    | none => rfl
    | some o => exact absurd (Nat.lt_of_succ_lt (Heap.lt_size e)) (Nat.lt_irrefl _)
  refine call_own F.excBase_ValueError hT hC (looks_findIn X T.iC) (fun self => bind_fn X self T.tC) (one_size v) ?_
  refine ex_init (h := hp) (s := ⟨(hp.push (kdv_tup [v])).push (excO C hp.objs.size), g, dr, tk, os⟩) T MO X hlim G BL hv k hget hnx (by show hp.objs.size ≤ _; rw [Heap.size_push, Heap.size_push]; exact Nat.le_trans (Nat.le_succ _) (Nat.le_succ _)) ?_ (fun h' tk' dx t1 k' hx dn dne hns => ?_)
  · show A.depth + 1 < recursionLimit
    exact hroom
  · exact ⟨rfl, hq h' tk' (hp.objs.size + 1) dx ⟨k', Nat.le_succ _, ⟨_, _, hx, rfl, rfl, rfl, rfl⟩, dn, dne, hns⟩⟩
end
end ExS
end PySem
set_option maxHeartbeats 4000000
/-! EV15: raise C(e); try .. except C as n; isinstance(n, C), n.f in the suite. -/
namespace PySem.W
open PySem PySem.Spec PySem.Calls PyProof.Rows
section
variable {prog : Program} {w : World} {A : Around} {E : Value → Shared → Prop} {s : Shared} {K : Frag} {x D : Addr} {ox : Obj} {od : Option Obj}
theorem ev_findObj_data {C : Addr} {name : Str} {a g : Value} (hc : (clsIn K C).isSome = true) (ha : findIn K (.ref C) name = some (some a)) (hg : specialIn K a "__get__" = some (some g)) (ht : takesIn K a = some true) : findObj K C od name = some (.bind g a) := by
  obtain ⟨cd, hc⟩ := Option.isSome_iff_exists.mp hc
  unfold findObj
  rw [hc, Option.bind_some, ha, Option.bind_some]
  simp [hg, ht]
theorem ev_kin_classE {Q : Option Value → Shared → Prop} (hga : findIn K (.ref D) "__getattribute__" = some (some (.builtin "BaseException.__getattribute__"))) (hgt : findIn K (.ref D) "__getattr__" = some none) (hsub : subIn K (.ref D) (.type "BaseException") = some true)
    (hdct : hasDictIn K D = true) (ha : findIn K (.ref D) "__class__" = some (some (.builtin "object.__class__")))
    (hn : specialIn K (.builtin "object.__class__") "__get__" = some (some (.builtin "getset_descriptor.__get__"))) (htk : takesIn K (.builtin "object.__class__") = some true) (hm : mroIn K D (.type "object") = some true)
    (X : K.In s.heap) (I : InstAt s.heap x ox D od) (h : Q (some (.ref D)) { s with toks := s.toks + 1 }) : wpAny (model prog w) A (getAttr? (.ref x) "__class__") Q E s := by
  have hf : findObj K D od "__class__" = some (.bind (.builtin "getset_descriptor.__get__") (.builtin "object.__class__")) := ev_findObj_data (by obtain ⟨cd, hc, _⟩ := any_some hdct; rw [hc]; rfl) ha hn htk
  obtain ⟨hp, g, d, t, os⟩ := s
  have L0 := I.type (M := model prog w)
  have L1 := looks_findIn (M := model prog w) X hga
  have L2 := looks_findIn (M := model prog w) X hgt
  have L3 := looks_find (M := model prog w) X I hf
  have sub : Looks (model prog w) hp (isInstance (.ref x) (.type "BaseException")) true := L0.andThen (looks_subIn X hsub)
  have hx0 : (false && onTheHeap (Value.builtin "BaseException.__getattribute__")) = false := rfl
  have hx2 : (Value.builtin "BaseException.__getattribute__" == Value.builtin "object.__getattribute__") = false := by decide +kernel
  have hx1 : (onTheHeap (Value.ref D) && Value.builtin "BaseException.__getattribute__" == Value.builtin "object.__getattribute__") = false := by rw [hx2]; rfl
  unfold getAttr? getAttrBy? getAttrBy
  refine wpAny_bind (wpAny_mkText (wpAny_bind (wpAny_attempt (wpAny_holding (wpAny_bind (L0.at (wpAny_bind (L1.at ?_))))))))
  show wpAny _ _ (if (onTheHeap (Value.ref D) && Value.builtin "BaseException.__getattribute__" == Value.builtin "object.__getattribute__") = true then _ else _) _ _ _
  rw [hx1, if_neg Bool.false_ne_true]
  unfold getAttrByItsOwn hookBefore
  refine wpAny_bind ?_
  rw [if_pos (show onTheHeap (Value.ref D) = true from rfl)]
  refine L2.at ?_
  refine wpAny_bind (wpAny_attempt (wpAny_holding ?_))
  unfold callGetattribute
  rw [hx0, if_neg Bool.false_ne_true]
  unfold boundAndCalled
  rw [PySem.F.excAttr_ValueError.ga.bind (.ref x)]
  refine wpAny_bind (wpAny_pure ?_)
  show wpAny _ _ (call (.builtin "BaseException.__getattribute__") [.ref x, .str "__class__" t]) _ _ _
  refine wpAny_call (codeAny_call_builtin PySem.F.excAttr_ValueError.ga.plain PySem.F.entry_bexc_ga ?_)
  refine @check_slot (model prog w) _ _ ⟨hp, g, d, t + 1, os⟩ "BaseException.__getattribute__" "BaseException" "__getattribute__" (.ref x) [.str "__class__" t] [] _ (by decide +kernel) (by decide +kernel) sub (PySem.F.args_bexc_ga (.ref x) (.str "__class__" t)) ?_
  unfold Builtin.«object.__getattribute__»
  refine wpAny_bind (wpAny_of_eq (a := ((Value.ref x : Value), [Value.str "__class__" t])) (by first | rfl | (simp only [slotArgs]; rfl)) ?_)
  refine wpAny_bind (wpAny_pure (wpAny_bind (L0.at (wpAny_bind (L3.at ?_)))))
  show wpAny _ _ (holding [Value.builtin "object.__class__"] (call (.builtin "getset_descriptor.__get__") [.builtin "object.__class__", .ref x, .ref D]) >>= ret) _ _ _
  refine wpAny_bind (wpAny_holding (wpAny_call (class_get (s := ⟨hp, g, d, t + 1, os⟩) (ox := ox) (od := od) X I hm ?_)))
  refine wpAny_pure ?_
  show wpAny _ _ (handedOut (.ref D)) _ _ _
  rw [handedOut_of (v := .ref D) rfl]
  first
    | exact wpAny_pure (wpAny_pure h)
    | exact wpAny_pure h
    | exact wpAny_pure (wpAny_bind (wpAny_pure (wpAny_pure h)))
theorem ev_kitx_exc (hga : findIn K (.ref D) "__getattribute__" = some (some (.builtin "BaseException.__getattribute__"))) (hgt : findIn K (.ref D) "__getattr__" = some none) (hsub : subIn K (.ref D) (.type "BaseException") = some true) (hdct : hasDictIn K D = true) (ha : findIn K (.ref D) "__class__" = some (some (.builtin "object.__class__")))
    (hn : specialIn K (.builtin "object.__class__") "__get__" = some (some (.builtin "getset_descriptor.__get__"))) (htk : takesIn K (.builtin "object.__class__") = some true) (hm : mroIn K D (.type "object") = some true) :
    KitX K (.ref x) (.ref D) (fun h => InstAt h x ox D od) where
  ty := fun _ _ _ I => I.type
  it := fun _ _ X _ => by
    obtain ⟨cdD, hcD, _⟩ := any_some hdct
    unfold clsIn at hcD
    split at hcD
    · rename_i c' d' cd' sl' ho
      intro A' Q' E' s' k q
      unfold isType loadHead
      exact wpAny_bind (wpAny_loadPart (k _ _ (X _ _ ho)) (wpAny_pure q))
    · cases hcD
  ne := fun h tp dd its n sl X htp => by
    obtain ⟨cdD, hcD, _⟩ := any_some hdct
    refine Bool.eq_false_iff.mpr fun q => ?_
    have e : D = tp := Value.ref.inj (beq_iff_eq.mp q)
    subst e
    unfold clsIn at hcD
    split at hcD
    · rename_i c' d' cd' sl' ho
      have z := (X _ _ ho).symm.trans htp
      cases z
    · cases hcD
  ca := fun X I k => ev_kin_classE hga hgt hsub hdct ha hn htk hm X I k
end
end PySem.W
namespace L2.EV
open PySem PySem.Spec PyProof.Rows
def okAny : D → Prop := fun _ => True
def okInt : D → Prop := fun d => match d with
  | .int i => i.natAbs.log2 < 1920
  | _ => False
/-- a class of errors: made of one value, kept as the field fld -/
structure ExC (P : Program) (w : World) (K : PySem.W.Frag) (mg : Str → Option Value) (C fld : Str) (okD : D → Prop) : Prop where
  ex : ∃ (D fI : Addr) (p : Str) (msg : Expr) (ok : Value → Prop), ExS.ExTxt P K (He.ga K C) D fI p fld msg ∧ ExS.MsgOk P w msg p ok ∧ ∀ H d v u, okD d → DV K H d v → RelV v u → ok u
  m : mg C = some (.ref (He.ga K C))
theorem okAny_ok {K : PySem.W.Frag} : ∀ H d v u, okAny d → DV K H d v → RelV v u → (fun _ : Value => True) u := fun _ _ _ _ _ _ _ => trivial
theorem okInt_ok {K : PySem.W.Frag} : ∀ H d v u, okInt d → DV K H d v → RelV v u → ExS.intOk u := fun H d v u h dv r => by
  cases d with
  | int i =>
    simp only [DV] at dv; subst dv
    obtain ⟨t, rfl⟩ := r
    exact ⟨i, t, rfl, h⟩
  | _ => exact h.elim
theorem relO_one {v : V} {v' : Value} (r : RelV v v') (fld f : Str) : RelO (List.lookup f [(fld, v)]) (if f = fld then some v' else none) := by
  by_cases hw : f = fld
  · subst hw
    rw [if_pos rfl]
    have q : List.lookup f [(f, v)] = some v := by simp [List.lookup]
    rw [q]
    exact r
  · rw [if_neg hw]
    have qw : (f == fld) = false := by simpa using hw
    have q2 : List.lookup f [(fld, v)] = none := by simp [List.lookup, qw]
    rw [q2]
    trivial
section
variable {X : Cx} {W : WX} {pos : Pos}
def tMkX (C : Addr) (fld : Str) (ok : V → Hp → Prop) (ta : TA) : St → Hp → XK → Prop := fun σ H Q => ta σ H fun vs H1 => ∃ v, vs = [v] ∧ ok v H1 ∧ ∀ d, H1 d = none → Q (.ref C) (some d) (upd H1 d (.xd [(fld, v)]))
theorem pmk_ex {C D fI : Addr} {pr fld x : Str} {msg : Expr} {ok : Value → Prop} {okv : V → Hp → Prop} {a : Expr} {ta : TA} {p pos : Pos} {k : Nat} (gC : X.mg x = some (.ref C)) (T : ExS.ExTxt X.prog X.K C D fI pr fld msg) (MO : ExS.MsgOk X.prog X.w msg pr ok) (hok : ∀ v H u, okv v H → RelV v u → ok u)
    (hr : Room k X.A) (ha : PA X [a] ta) (hg : Gl X x := by rfl) (hdb : (x == ("__debug__" : Str)) = false := by decide)
    (he : starEach (a :: []) X.env = (false, eval a X.env) :: starEach [] X.env := by rfl) (hpl : (backTo pos (starEach [] X.env)).any (·.1) = false := by rfl) :
    PMk X (.Call (.Name x p) [a] [] pos) (tMkX C fld okv ta) := by
  intro pins s σ H Q I h
  refine wpAny_Call_Name_kw (ld_glob I hg gC ?_ hdb)
  refine PySem.W.callWith_K (h₀ := X.base) I.ok.mod.kin T.kC (thn (ha.run pos pins s σ H _ I h) fun us s1 hh => ?_) he hpl
  obtain ⟨vs, H1, I1, r1, v, ev, ov, q1⟩ := hh
  subst ev
  refine ⟨I1.kIn, ?_⟩
  cases r1 with
  | cons rv rn =>
    rename_i v' us'
    cases rn
    show wpAny _ _ (call (.ref C) [v']) _ _ _
    have hlim := I1.nolimit
    have G : s1.heap.Ns mainGlobals X.mg := I1.mod.glob.keeps I1.bk
    have BL : ∃ mb, s1.heap.Ns builtinsNs mb ∧ ∀ y : Str, y ≠ "__name__" → mb y = bootBuiltins y := let ⟨mb, h1, h2⟩ := I1.mod.blt; ⟨mb, h1.keeps I1.bk, h2⟩
    have Kin := I1.kIn
    obtain ⟨hp, g, dr, tk, os⟩ := s1
    refine wpAny_call (ExS.ex_made T MO Kin hlim G BL (hok v H1 v' ov rv) (by have := hr.dp; omega) fun h' tk' e d M => ?_)
    show MkP X pins σ Q (.ref e) ⟨h', g, dr, tk', os⟩
    obtain ⟨oe, fv, hoe, hc, hd, hdat, h1⟩ := M.obj
    have hns := M.ns
    obtain ⟨G', g1, g2⟩ := restrict h' fun b => decide (b ≠ e)
    have gk : ∀ b, b ≠ e → G'.get? b = h'.get? b := fun b hb => g1 b (decide_eq_true hb)
    have ge : G'.get? e = none := g2 e (by simp)
    have old : ∀ b o, hp.get? b = some o → G'.get? b = some o := fun b o q => (gk b (Nat.ne_of_lt (Nat.lt_of_lt_of_le (Heap.lt_size q) M.new))).trans (M.keep b o q)
    have ob : ObjOk X.prog X.w (upd H1 d (.xd [(fld, v)])) G' d (.xd [(fld, v)]) :=
      ⟨_, hns.at (fun o q => (gk d M.dne).trans q), fun f => relO_one rv fld f⟩
    have J : Inv X pins σ (upd H1 d (.xd [(fld, v)])) ⟨G', g, dr, tk', os⟩ := I1.laid (t' := tk') old M.dbig ob
    refine ⟨e, oe, fv, ⟨G', g, dr, tk', os⟩, _, .ref C, some d, rfl, J, fun b o q => ?_, ge, hoe, ⟨hc, hd⟩, hdat, h1, ?_, rfl, I1.bare, raises_own T.exC T.tyC, q1 d (I1.hok.fresh M.dbig)⟩
    · by_cases hb : b = e
      · have q' : G'.get? b = some o := q
        rw [hb, ge] at q'; cases q'
      · exact (gk b hb).symm.trans q
    · rw [upd_ne (Ne.symm M.dne)]
      exact I1.hok.fresh M.new
def sRaise (C fld : Str) (okD : D → Prop) (r : EE) : ES := fun e m Z => r e m (fun d m1 => okD d ∧ ∀ p, m1 p = none → Z.ex C (some p) e (mup m1 p (.xd [(fld, d)]))) (xs_ Z e)
theorem sv_raise {C fld : Str} {okD : D → Prop} {a : Expr} {r : EE} {k : Nat} {p pos2 : Pos} (F : ExC X.prog X.w X.K X.mg C fld okD) (hc : X.calm = true) (hr : Room k X.A) (tk : Takes X W) (ha : PE X a (RE X.K W r)) (hg : Gl X C := by rfl) (hdb : (C == ("__debug__" : Str)) = false := by decide)
    (he : starEach (a :: []) X.env = (false, eval a X.env) :: starEach [] X.env := by rfl) (hpl : (backTo pos2 (starEach [] X.env)).any (·.1) = false := by rfl) :
    PS X (.Raise (some (.Call (.Name C p) [a] [] pos2)) none pos) (RS X.K W (sRaise C fld okD r)) := by
  obtain ⟨⟨D, fI, pr, msg, ok, T, MO, hok⟩, gC⟩ := F
  refine PSimp (ps_raise hc tk (pmk_ex (okv := fun v H => ∃ d, okD d ∧ DV X.K H d v) gC T MO (fun v H u ⟨d, h1, h2⟩ r => hok H d v u h1 h2 r) hr (av_cons ha av_nil he) hg hdb he hpl)) fun Dn σ H ⟨e, m, Z, hE, hM, h, hZ⟩ => ?_
  refine ⟨e, m, fun ds m1 => ∃ d, ds = [d] ∧ okD d ∧ ∀ p, m1 p = none → Z.ex C (some p) e (mup m1 p (.xd [(fld, d)])), xs_ Z e, hE, hM, ?_, fun ds m1 H1 vs h1 k1 hM1 dv => ?_, hZ.xe hE⟩
  · exact (show aCons r aNil e m _ _ by
      have h' : r e m (fun d m1 => okD d ∧ ∀ p, m1 p = none → Z.ex C (some p) e (mup m1 p (.xd [(fld, d)]))) (xs_ Z e) := h
      show r e m (fun d m1 => ∃ d', [d] = [d'] ∧ okD d' ∧ ∀ p, m1 p = none → Z.ex C (some p) e (mup m1 p (.xd [(fld, d')]))) (xs_ Z e)
      have eq : (fun (d : EV.D) (m1 : Mem) => ∃ d', [d] = [d'] ∧ okD d' ∧ ∀ p, m1 p = none → Z.ex C (some p) e (mup m1 p (.xd [(fld, d')]))) = (fun d m1 => okD d ∧ ∀ p, m1 p = none → Z.ex C (some p) e (mup m1 p (.xd [(fld, d)]))) := by
        funext d m1
        apply propext
        constructor
        · rintro ⟨d', e1, h2⟩; cases e1; exact h2
        · intro h2; exact ⟨d, rfl, h2⟩
      rw [eq]; exact h')
  · obtain ⟨d, rfl, od, h1⟩ := h1
    obtain ⟨v, rs, rfl, dv1, dv2⟩ := dv.un
    rw [dv2.un0]
    refine ⟨v, rfl, ⟨d, od, dv1⟩, fun q hq => ?_⟩
    have hl : Loose (H1 q) := by rw [hq]; trivial
    have kn : Keep X.K H1 (upd H1 q (.xd [(fld, v)])) := keep_upd hl
    exact hZ.ex C (some q) e _ σ _ (h1 q (hM1.none hq)) (k1.trans kn) (hE.keep (k1.trans kn)) (hM1.upd hl ⟨_, upd_same, v, [], rfl, dv1.keep kn, rfl⟩)
/-! ### try: .. except Y as n: .. -/
/-- which class is under which -/
abbrev STab := Str → Str → Option Bool
structure SubOk (K : PySem.W.Frag) (T : STab) : Prop where
  exm : ∀ C Y b, T C Y = some b → PySem.W.exmOne K (.ref (He.ga K C)) (.ref (He.ga K Y)) = some b
  kit : ∀ C Y b, T C Y = some b → PySem.W.kitOne K (.ref (He.ga K C)) (.ref (He.ga K Y)) = some b
  xc : ∀ C Y b, T C Y = some b → ExcC K (He.ga K C) ∧ XfC K (He.ga K C)
def sTry (T : STab) (i : Nat) (Y : Str) (body : ES) (su : Addr → Str → Option Addr → ES) : ES := fun e m Z => body e m { Z with ex := fun C dx e1 m1 => ∃ b, T C Y = some b ∧
  (b = true → ∀ a, m1 a = none → su a C dx (e1.set i (some (.ref a))) m1 { nx := fun e2 m2 => Z.nx (e2.set i none) m2, rt := Z.rt, bk := fun e2 m2 => Z.bk (e2.set i none) m2, ct := fun e2 m2 => Z.ct (e2.set i none) m2, ex := fun _ _ _ _ => False }) ∧ (b = false → Z.ex C dx e1 m1) }
theorem sv_try {T : STab} (hT : SubOk X.K T) (i : Nat) {Y n : Str} {body suite : List Stmt} {b₀ : Stmt} {np pos' : Pos} {rb : ES} {su : Addr → Str → Option Addr → ES} (gY : X.mg Y = some (.ref (He.ga X.K Y))) (hs : X.stack = X.env :: X.outer) (hf : X.env.frame = some X.env.locals) (hN : X.N.Nodup) (tk : Takes X W)
    (hb : ∀ (W : WX) (pn : List (Addr × Obj)) (xe : Value → Shared → Prop), Takes (X.tr pn xe) W → PassesOwn (model X.prog X.w) X.A X.env xe → PSs (X.tr pn xe) body (RS X.K W rb))
    (hsu : ∀ (a : Addr) (oe : Obj) (C : Str) (d : Option Addr) (pn : List (Addr × Obj)), Zc (.ref (He.ga X.K C)) d oe → (∃ vs, oe.data = .fields vs) → PSs (X.suite a ((a, oe) :: pn)) (b₀ :: suite) (RS X.K W0 (su a C d)))
    (hg : Gl X Y := by rfl) (hi : X.N[i]? = some n := by rfl) (hln : X.env.kindOf n = some .local := by rfl) (hdb : (Y == ("__debug__" : Str)) = false := by decide) :
    PS X (.Try body [.ExceptHandler (some (.Name Y np)) (some n) (b₀ :: suite) pos'] [] [] pos) (RS X.K W (sTry T i Y rb su)) :=
  PSimp (ps_try_as (tb := fun W' => RS X.K W' rb) (ts := fun a cls d => fun D σ H => ∃ C, cls = .ref (He.ga X.K C) ∧ RS X.K W0 (su a C d) D σ H) (Wout := W) hs hf hN hi hln (show Names X Y (.ref (He.ga X.K Y)) from ⟨hg, hdb, .inl gY⟩) tk hb fun a oe cls d pn hz hv => ⟨fun pins s σ H D I ⟨C, ec, q⟩ => by
      subst ec
      exact (hsu a oe C d pn hz hv).run pins s σ H D I q⟩) fun Dn σ H ⟨e, m, Z, hE, hM, h, hZ⟩ => by
    refine ⟨e, m, _, hE, hM, h, ⟨hZ.nx, hZ.rt, hZ.bk, hZ.ct, fun C dx e1 m1 σ1 H1 ⟨b, h1, h2, h3⟩ k1 hE1 hM1 => ?_⟩⟩
    refine ⟨b, hT.exm C Y b h1, fun hb' a ha => ⟨C, rfl, ?_⟩, fun hb' => hZ.ex C dx e1 m1 σ1 H1 (h3 hb') k1 hE1 hM1⟩
    refine ⟨e1.set i (some (.ref a)), m1, _, hE1.set i (by simp only [DV]), hM1, h2 hb' a (hM1.none ha), ?_⟩
    exact ⟨fun e2 m2 σ2 H2 q k2 hE2 hM2 => hZ.nx _ m2 _ H2 q (k1.trans k2) (hE2.unset i) hM2, (hZ.keep k1).rt, fun e2 m2 σ2 H2 q k2 hE2 hM2 => hZ.bk _ m2 _ H2 q (k1.trans k2) (hE2.unset i) hM2, fun e2 m2 σ2 H2 q k2 hE2 hM2 => hZ.ct _ m2 _ H2 q (k1.trans k2) (hE2.unset i) hM2, fun _ _ _ _ _ _ q => q.elim⟩
/-- isinstance(n, Y), n the caught error (at a, of the class C) -/
def eErrIs (T : STab) (a : Addr) (C Y : Str) (dx : Option Addr) (i : Nat) : EE := fun e m Q _ => e[i]? = some (some (.ref a)) ∧ (∃ p fs, dx = some p ∧ m p = some (.xd fs)) ∧ ∃ b, T C Y = some b ∧ Q (.bl b) m
def eErrF (T : STab) (a : Addr) (C Y f : Str) (dx : Option Addr) (i : Nat) : EE := fun e m Q _ => e[i]? = some (some (.ref a)) ∧ ∃ p fs d b, dx = some p ∧ m p = some (.xd fs) ∧ fs.lookup f = some d ∧ T C Y = some b ∧ Q d m
theorem ev_errIs {T : STab} (hT : SubOk X.K T) {a : Addr} {oe : Obj} {C Y n : Str} {dx : Option Addr} {pn : List (Addr × Obj)} (i : Nat) {p p1 p2 : Pos} (hz : Zc (.ref (He.ga X.K C)) dx oe) (hf : ∃ vs, oe.data = .fields vs) (hm : X.mg "isinstance" = none) (gY : X.mg Y = some (.ref (He.ga X.K Y)))
    (hg : Gl X "isinstance" := by rfl) (hgY : Gl X Y := by rfl) (hi : X.N[i]? = some n := by rfl) (hv : Vis X.env.scope n := by first | exact Or.inl rfl | exact Or.inr (Or.inl rfl) | exact Or.inr (Or.inr rfl)) (hd : (n == ("__debug__" : Str)) = false := by decide) (hcd : (n == ("__classdict__" : Str)) = false := by decide) (hdY : (Y == ("__debug__" : Str)) = false := by decide)
    (he : starEach [.Name n p1, .Name Y p2] X.env = (false, eval (.Name n p1) X.env) :: starEach [.Name Y p2] X.env := by rfl) (he2 : starEach [.Name Y p2] X.env = (false, eval (.Name Y p2) X.env) :: starEach [] X.env := by rfl) (hpl : (backTo pos (starEach [.Name Y p2] X.env)).any (·.1) = false := by rfl) :
    PE (X.suite a ((a, oe) :: pn)) (.Call (.Name "isinstance" p) [.Name n p1, .Name Y p2] [] pos) (RE X.K W0 (eErrIs T a C Y dx i)) := by
  have hcr : CallR (X.suite a ((a, oe) :: pn)) (.builtin "isinstance") (fun xs H Q => ∃ (c : V) (cv : Value) (b : Bool) (dd : Addr) (fs : List (Str × V)), xs = [.ref a, c] ∧ (∀ u, RelV c u → u = cv) ∧ dx = some dd ∧ H dd = some (.xd fs) ∧ PySem.W.kitOne X.K (.ref (He.ga X.K C)) cv = some b ∧ ExcC X.K (He.ga X.K C) ∧ Q (.bl b) H) := by
    intro pins s σ H xs us Q I r h
    obtain ⟨c, cv, b, dd, fs, rfl, hcv, edx, hdd, e, EC, q⟩ := h
    cases r with
    | cons rx rr =>
      cases rr with
      | cons rt rr =>
        cases rr
        cases rx
        have ec := hcv _ rt
        subst ec
        obtain ⟨hget, _⟩ := I.pin (a, oe) (List.mem_append.mpr (.inl List.mem_cons_self))
        obtain ⟨vs, hv⟩ := hf
        have hx : ObjOk X.prog X.w H s.heap dd (.xd fs) := I.hok dd _ hdd
        obtain ⟨mA, hns, hr⟩ := hx
        obtain ⟨od, ho, hl⟩ := lookIn_ns hns
        have J : PySem.W.InstAt s.heap a oe (He.ga X.K C) (some od) := ⟨hget, hz.1, by unfold PySem.W.notCls; rw [hv] <;> rfl, by rw [hz.2, edx]; exact ho⟩
        exact PySem.W.kia_one (PySem.W.ev_kitx_exc EC.hg EC.hk EC.hs EC.hd EC.ha EC.hn EC.ht EC.hm) I.kIn J e (fun z => nomatch z) fun tk => ⟨.bl b, H, I.kept (t' := tk) fun _ _ z => z, rfl, q⟩
  refine PEimp (pe_callB (X := X.suite a ((a, oe) :: pn)) hcr hg hm (by decide +kernel) (av_cons (ev_var (X := X.suite a ((a, oe) :: pn)) (W := W0) i hi hv hd hcd) (av_cons (ev_glob (X := X.suite a ((a, oe) :: pn)) (W := W0) (gv_glo gY) hgY hdY) av_nil he2) he) (by decide) (by decide) he hpl) fun σ H Q ⟨e, m, Q0, X0, hE, hM, h, hQ, hX⟩ => ?_
  obtain ⟨h1, ⟨q, fs, edx, hq⟩, b, hb, h3⟩ := h
  refine ⟨e, m, fun ds m1 => ds = [.ref a, .glob Y] ∧ m1 = m, X0, hE, hM, ?_, fun ds m1 H1 vs ⟨e1, e2⟩ k1 hM1 dv => ?_, hX⟩
  · show eVar i e m (fun d m1 => eK (.glob Y) e m1 (fun d2 m2 => _ ∧ _) X0) X0
    unfold eVar
    rw [h1]
    exact ⟨rfl, rfl⟩
  · subst e1 e2
    obtain ⟨v, r1, rfl, d1, d2⟩ := dv.un
    obtain ⟨v2, r2, rfl, d2, d3⟩ := d2.un
    rw [d3.un0]
    simp only [DV] at d1 d2
    subst d1 d2
    obtain ⟨vs', hH, _⟩ := hM1 q _ hq
    exact ⟨_, .ref (He.ga X.K Y), b, q, vs', rfl, fun u r => r, edx, hH, hT.kit C Y b hb, (hT.xc C Y b hb).1, hQ _ m1 H1 _ h3 k1 hM1 (by simp only [DV])⟩
theorem ev_errF {T : STab} (hT : SubOk X.K T) {a : Addr} {oe : Obj} {C Y f n : Str} {dx : Option Addr} {pn : List (Addr × Obj)} (i : Nat) {p1 : Pos} (hz : Zc (.ref (He.ga X.K C)) dx oe) (hf : ∃ vs, oe.data = .fields vs) (hno : ∀ C b, T C Y = some b → PySem.W.findIn X.K (.ref (He.ga X.K C)) f = some none)
    (hi : X.N[i]? = some n := by rfl) (hv : Vis X.env.scope n := by first | exact Or.inl rfl | exact Or.inr (Or.inl rfl) | exact Or.inr (Or.inr rfl)) (hd : (n == ("__debug__" : Str)) = false := by decide) (hcd : (n == ("__classdict__" : Str)) = false := by decide)
    (hb : attributeBase (.Name n p1) f X.env (eval (.Name n p1) X.env) = eval (.Name n p1) X.env := by rfl) :
    PE (X.suite a ((a, oe) :: pn)) (.Attribute (.Name n p1) f pos) (RE X.K W0 (eErrF T a C Y f dx i)) := by
  refine ⟨fun pins s σ H Q I ⟨e, m, Q0, X0, hE, hM, h, hQ, hX⟩ => ?_⟩
  obtain ⟨h1, q, fs, d, b, edx, hq, hl, hb', h3⟩ := h
  refine (pe_xf (hT.xc C Y b hb').2 (hno C b hb') hz hf (pe_var (X := X.suite a ((a, oe) :: pn)) hi hv hd hcd) hb).run pins s σ H Q I ?_
  obtain ⟨v, hs1, dv⟩ := hE.2 i _ h1
  simp only [DV] at dv; subst dv
  obtain ⟨vs, hH, hk⟩ := hM q _ hq
  obtain ⟨v0, lv, dv0⟩ := lookup_KD f hk hl
  exact ⟨_, hs1, rfl, rfl, q, vs, v0, edx, hH, lv, hQ d m H v0 h3 (Keep.refl H) hM dv0⟩
end
end L2.EV
set_option maxHeartbeats 1000000
/-! EV16: text[::-1]; {k: v, ..}. -/
namespace L2.EV
open PySem PySem.Spec PyProof.Rows
def revS (z : Str) : Str := ⟨((Builtin.Str.strSliceIndices none none (-1) z.length).filterMap (z.cps[·]?)).toArray⟩
def eRev (a : EE) : EE := fun e m Q X => a e m (fun d m1 => strQ d fun z => (revS z).length ≤ sizeLine ∧ Q (.str (revS z)) m1) X
section
variable {X : Cx} {W : WX} {pos : Pos}
theorem ev_rev {e : Expr} {r : EE} {k : Nat} {p1 p2 p3 : Pos} (he : PE X e (RE X.K W r)) : PE X (.Subscript e (.Slice none none (some (.UnaryOp .USub (.Constant (.int 1) k p1) p2)) p3) pos) (RE X.K W (eRev r)) := by
  refine ⟨fun pins s σ H Q I ⟨e0, m, Q0, X0, hE, hM, h, hQ, hX⟩ => ?_⟩
  refine Subscript_ (thn (he.run pins s σ H (fun v H1 => ∃ d m1, (strQ d fun z => (revS z).length ≤ sizeLine ∧ Q0 (.str (revS z)) m1) ∧ Keep X.K H H1 ∧ MemOk X.K m1 H1 ∧ DV X.K H1 d v) I ⟨e0, m, _, X0, hE, hM, h, fun d m' H' v q k hM' dv => ⟨d, m', q, k, hM', dv⟩, hX⟩) fun v s1 ⟨x, H1, I1, r1, d, m1, q, k1, hM1, dv⟩ => ?_)
  cases d with
  | str z =>
    simp only [DV] at dv; subst dv
    obtain ⟨t, rfl⟩ := r1
    obtain ⟨hz, q⟩ : (revS z).length ≤ sizeLine ∧ Q0 (.str (revS z)) m1 := q
    have hst : PO X (some (.UnaryOp .USub (.Constant (.int 1) k p1) p2)) (tPart (tUn (rU fun i => .int (-i)) (tC (.int 1)))) := po_some (pe_un un_neg pe_int)
    refine wpAny_Slice (thn (po_none.run pins s1 σ H1 (fun o H2 => o = none ∧ H2 = H1) I1 ⟨rfl, rfl⟩) fun vl s2 ⟨l, H2, I2, pl, el, e2⟩ => ?_)
    subst el e2
    refine thn (po_none.run pins s2 σ H2 (fun o H3 => o = none ∧ H3 = H2) I2 ⟨rfl, rfl⟩) fun vu s3 ⟨u, H3, I3, pu, eu, e3⟩ => ?_
    subst eu e3
    refine thn (hst.run pins s3 σ H3 (fun o H4 => o = some (-1) ∧ H4 = H3) I3 ⟨1, rfl, -1, rfl, rfl, rfl⟩) fun vs s4 ⟨o, H4, I4, ps, eo, e4⟩ => ?_
    subst eo e4
    have I5 : Inv X pins σ H4 { s4 with heap := s4.heap.push { cls := .type "slice", data := .fields #[vl, vu, vs] } } := I4.kept (t' := s4.toks) fun b ob q => Heap.get?_push_of_some _ q
    obtain ⟨l, rfl, hl⟩ := IsPart.raw pl
    obtain ⟨u, rfl, hu⟩ := IsPart.raw pu
    obtain ⟨w', rfl, hw⟩ := IsPart.raw ps
    show wpAny (model X.prog X.w) X.A (subscriptTail e (.Slice none none (some (.UnaryOp .USub (.Constant (.int 1) k p1) p2)) p3) (.str z t) (.ref s4.heap.objs.size)) (EP X pins σ Q) X.xe { s4 with heap := s4.heap.push { cls := .type "slice", data := .fields #[partValue l, partValue u, partValue w'] } }
    refine tail_any (ops := [.str z t, .ref s4.heap.objs.size]) (typeIs_str _ _ _) F.slot_str_getitem.lookup ?_ (by with_unfolding_all rfl)
    refine wpAny_getItem_str_slice (l := l) (u := u) (st := w') ⟨_, Heap.get?_push_size _ rfl, rfl, rfl⟩ (by rw [hw]; rfl) ?_
    unfold sliceMade slicePicked
    rw [hl, hu, hw]
    show Made.post (.str (revS z)) (EP X pins σ Q) _
    exact ⟨hz, .str _, H4, I5.tok _, ⟨_, rfl⟩, hQ _ m1 H4 _ q k1 hM1 (by simp only [DV])⟩
  | _ => exact q.elim
end
/-! ### {k: v, ..} -/
abbrev EP2 := Sl → Mem → (List (Key × D) → Mem → Prop) → XD → Prop
def pNil : EP2 := fun _ m Q _ => Q [] m
def pCons (k v : EE) (r : EP2) : EP2 := fun e m Q X => k e m (fun d m1 => v e m1 (fun y m2 => r e m2 (fun ps m3 => optQ (keyOf d) fun kk => Q ((kk, y) :: ps) m3) X) X) X
def putAll (kvs : List (Key × D)) : List (Key × D) := kvs.foldl (fun acc kv => putD acc kv.1 kv.2) []
def eDisp (r : EP2) : EE := fun e m Q X => ∀ p, m p = none → r e (mup m p (.dK [])) (fun kvs m1 => m1 p = some (.dK []) ∧ kvs.length ≤ 15 ∧ Q (.ref p) (mup m1 p (.dK (putAll kvs)))) X
section
variable {X : Cx} {W : WX} {pos : Pos}
/-- the pairs of a display as trees -/
structure PDs (X : Cx) (W : WX) (pos : Pos) (keys : List (Option Expr)) (values : List Expr) (r : EP2) : Prop where
  ex : ∃ trs, PPs X pos keys values trs ∧ ∀ σ H Q, (∃ e m Q0 X0, SlOk X.K H e σ ∧ MemOk X.K m H ∧ r e m Q0 X0 ∧ (∀ kvs m' H' vs, Q0 kvs m' → Keep X.K H H' → MemOk X.K m' H' → KD X.K H' kvs vs → Q (vs.map fun kv => (kV kv.1, kv.2)) H') ∧ CE X.K H X0 (WE W σ)) → tPairs trs σ H Q
  all : keys.all (·.isSome) = true
  len : keys.length = values.length
theorem pd_nil : PDs X W pos [] [] pNil := ⟨⟨[], pps_nil, fun σ H Q ⟨e, m, Q0, X0, hE, hM, h, hQ, _⟩ => hQ [] m H [] h (Keep.refl H) hM rfl⟩, rfl, rfl⟩
theorem pd_cons {k v : Expr} {ks : List (Option Expr)} {vs : List Expr} {rk rv : EE} {r : EP2} (hk : PE X k (RE X.K W rk)) (hv : PE X v (RE X.K W rv)) (hr : PDs X W pos ks vs r) : PDs X W pos (some k :: ks) (v :: vs) (pCons rk rv r) := by
  obtain ⟨⟨trs, h1, h2⟩, ha, hl⟩ := hr
  refine ⟨⟨_, pps_cons hk hv h1, fun σ H Q ⟨e, m, Q0, X0, hE, hM, h, hQ, hX⟩ => ?_⟩, by simpa using ha, by simp [hl]⟩
  refine ⟨e, m, _, X0, hE, hM, h, fun d m1 H1 x q1 k1 hM1 dx => ?_, hX⟩
  refine ⟨e, m1, _, X0, hE.keep k1, hM1, q1, fun y m2 H2 z q2 k2 hM2 dz => ?_, hX.keep k1⟩
  refine h2 σ H2 _ ⟨e, m2, _, X0, (hE.keep k1).keep k2, hM2, q2, fun kvs m3 H3 us q3 k3 hM3 hk3 => ?_, (hX.keep k1).keep k2⟩
  obtain ⟨kk, ek, q3⟩ := optQ_un q3
  have ex : x = kV kk := keyOf_dv dx ek
  subst ex
  exact hQ _ m3 H3 ((kk, z) :: us) q3 (k1.trans (k2.trans k3)) hM3 ⟨z, us, rfl, dz.keep k3, hk3⟩
theorem merge_dv {K : PySem.W.Frag} {H : Hp} : ∀ {more : List (Key × D)} {us : List (Key × V)} {kvs : List (Key × D)} {vs : List (Key × V)}, KD K H more us → KD K H kvs vs → KD K H (more.foldl (fun acc kv => putD acc kv.1 kv.2) kvs) (mergeK vs us)
  | [], _, _, _, h, q => by rw [show _ = [] from h]; exact q
  | p :: ps, _, _, _, ⟨v, r, e, h1, h2⟩, q => by
    subst e
    show KD K H (ps.foldl (fun acc kv => putD acc kv.1 kv.2) (putD _ p.1 p.2)) (mergeK (putK _ p.1 v) r)
    exact merge_dv h2 (q.put h1)
theorem ev_disp {keys : List (Option Expr)} {values : List Expr} {r : EP2} (h : PDs X W pos keys values r) (h0 : keys ≠ [] := by simp) (h15 : keys.length ≤ 15 := by decide) : PE X (.Dict keys values pos) (RE X.K W (eDisp r)) := by
  obtain ⟨⟨trs, h1, h2⟩, ha, hl⟩ := h
  refine PEimp (pe_disp h1 ha hl h0 h15) fun σ H Q ⟨e, m, Q0, X0, hE, hM, h, hQ, hX⟩ p hp => ?_
  have hl : Loose (H p) := by rw [hp]; trivial
  have kn : Keep X.K H (upd H p (.dK [])) := keep_upd hl
  refine h2 σ _ _ ⟨e, _, _, X0, hE.keep kn, hM.upd (u := .dK []) hl ⟨[], upd_same, rfl⟩, h p (hM.none hp), fun kvs m1 H1 vs ⟨q1, q2, q3⟩ k1 hM1 hk => ?_, hX.keep kn⟩
  obtain ⟨v0, e0, n0⟩ := hM1 p _ q1
  have e1 : v0 = [] := n0
  subst e1
  refine ⟨e0, vs, rfl, by rw [hk.length]; exact q2, ?_⟩
  exact finU (P := fun m' => Q0 (.ref p) m') (R := fun H' => Q (.ref p) H') hM1 e0 trivial q3 (fun H' k q => ⟨_, q, merge_dv (hk.keep k) rfl⟩) fun m' H' q k hM' => hQ _ m' H' _ q (kn.trans (k1.trans k)) hM' (by simp only [DV])
end
theorem roomM {k j : Nat} {A : Around} {h : Option Value} (r : Room k A) (q : j ≤ 200 := by decide) : (A.mark h).units + j < cLine := by have := r.un; show A.units + j < cLine; omega
end L2.EV
set_option maxHeartbeats 1000000
/-! EV17: what the head tells: constants, tables, fields, errors; the Hook. -/
namespace L2.EV
open PySem PySem.Spec PyProof.Rows
open He (ga ma fAd)
theorem ba {a b : Bool} (h : (a && b) = true) : a = true ∧ b = true := Bool.and_eq_true_iff.mp h
/-! ### a value of the top -/
mutual
def dvB (K : PySem.W.Frag) : D → Value → Bool
  | .non, .none => true
  | .bl b, .bool c => b == c
  | .int i, .int j _ => decide (i = j)
  | .str x, .str y _ => decide (x = y)
  | .glob x, .ref a => a == ga K x
  | .ct ds, .ref a => (match K.lookup a with
    | some ⟨.type c, _, .seq its _, _⟩ => decide (c = "tuple") && (decide (its.size ≤ sizeLine) && dvsB K ds its.toList)
    | _ => false)
  | .lis ds, .ref a => (match K.lookup a with
    | some ⟨.type c, none, .seq its _, _⟩ => decide (c = "list") && (decide (its.size ≤ sizeLine) && dvsB K ds its.toList)
    | _ => false)
  | _, _ => false
def dvsB (K : PySem.W.Frag) : List D → List Value → Bool
  | [], [] => true
  | d :: ds, u :: us => dvB K d u && dvsB K ds us
  | _, _ => false
end
mutual
theorem dvB_ok {K : PySem.W.Frag} : ∀ {d : D} {u : Value}, dvB K d u = true → ∃ v, RelV v u ∧ ∀ H, DV K H d v
  | .non, u, h => by
    cases u <;> first | (simp only [dvB] at h; cases h; done) | skip
    exact ⟨.non, rfl, fun _ => by simp only [DV]⟩
  | .bl b, u, h => by
    cases u <;> simp only [dvB] at h <;> first | (cases h; done) | skip
    rename_i c
    have e : b = c := beq_iff_eq.mp h
    subst e
    exact ⟨.bl b, rfl, fun _ => by simp only [DV]⟩
  | .int i, u, h => by
    cases u <;> simp only [dvB] at h <;> first | (cases h; done) | skip
    rename_i j t
    have e : i = j := of_decide_eq_true h
    subst e
    exact ⟨.int i, ⟨t, rfl⟩, fun _ => by simp only [DV]⟩
  | .str x, u, h => by
    cases u <;> simp only [dvB] at h <;> first | (cases h; done) | skip
    rename_i j t
    have e : x = j := of_decide_eq_true h
    subst e
    exact ⟨.str x, ⟨t, rfl⟩, fun _ => by simp only [DV]⟩
  | .glob x, u, h => by
    cases u <;> simp only [dvB] at h <;> first | (cases h; done) | skip
    rename_i a
    have e : a = ga K x := beq_iff_eq.mp h
    subst e
    exact ⟨.ref _, rfl, fun _ => by simp only [DV]⟩
  | .ty n, u, h => by cases u <;> (simp only [dvB] at h; cases h)
  | .ref n, u, h => by cases u <;> (simp only [dvB] at h; cases h)
  | .tup n, u, h => by cases u <;> (simp only [dvB] at h; cases h)
  | .ct ds, u, h => by
    cases u <;> simp only [dvB] at h <;> first | (cases h; done) | skip
    rename_i a
    split at h
    · rename_i c od its n sl e
      obtain ⟨h1, h⟩ := ba h
      obtain ⟨h2, h3⟩ := ba h
      have e1 : c = "tuple" := of_decide_eq_true h1
      subst e1
      obtain ⟨vs, r1, r2⟩ := dvsB_ok h3
      refine ⟨.ref a, rfl, fun H => ?_⟩
      simp only [DV]
      exact ⟨a, vs, rfl, ⟨_, its, n, e, rfl, rfl, of_decide_eq_true h2, r1⟩, r2 H⟩
    · cases h
  | .lis ds, u, h => by
    cases u <;> simp only [dvB] at h <;> first | (cases h; done) | skip
    rename_i a
    split at h
    · rename_i c its n sl e
      obtain ⟨h1, h⟩ := ba h
      obtain ⟨h2, h3⟩ := ba h
      have e1 : c = "list" := of_decide_eq_true h1
      subst e1
      obtain ⟨vs, r1, r2⟩ := dvsB_ok h3
      refine ⟨.ref a, rfl, fun H => ?_⟩
      simp only [DV]
      exact ⟨a, vs, rfl, .inr ⟨_, its, n, e, rfl, rfl, rfl, of_decide_eq_true h2, r1⟩, r2 H⟩
    · cases h
theorem dvsB_ok {K : PySem.W.Frag} : ∀ {ds : List D} {us : List Value}, dvsB K ds us = true → ∃ vs, Vals vs us ∧ ∀ H, DVs K H ds vs
  | [], [], _ => ⟨[], .nil, fun _ => .nil⟩
  | [], _ :: _, h => by simp only [dvsB] at h; cases h
  | _ :: _, [], h => by simp only [dvsB] at h; cases h
  | d :: ds, u :: us, h => by
    simp only [dvsB] at h
    obtain ⟨h1, h2⟩ := ba h
    obtain ⟨v, r, d1⟩ := dvB_ok h1
    obtain ⟨vs, rs, ds1⟩ := dvsB_ok h2
    exact ⟨v :: vs, .cons r rs, fun H => .cons (d1 H) (ds1 H)⟩
end
def gvB (K : PySem.W.Frag) (x : Str) (d : D) : Bool := match PySem.W.nsIn K mainGlobals x with
  | some (some u) => dvB K d u
  | _ => false
theorem gvB_ok {K : PySem.W.Frag} {h : Heap} {mg : Str → Option Value} {x : Str} {d : D} (X : K.In h) (G : h.Ns mainGlobals mg) (c : gvB K x d = true) : GV K mg x d := by
  unfold gvB at c
  split at c
  · rename_i u e
    obtain ⟨v, r, hd⟩ := dvB_ok c
    exact ⟨u, v, PySem.W.mg_of X G e, r, hd⟩
  · cases c
/-! ### tables -/
def entB (K : PySem.W.Frag) : List (Str × D) → List DictEntry → Bool
  | [], [] => true
  | p :: ps, e :: es => (match e.key with
    | .str y _ => decide (p.1 = y) && dvB K p.2 e.val
    | _ => false) && entB K ps es
  | _, _ => false
theorem entB_ok {K : PySem.W.Frag} (z : Str) : ∀ {kvs : List (Str × D)} {es : List DictEntry}, entB K kvs es = true → es.any (·.refKey) = false ∧ (match kvs.lookup z, es.find? (·.key.isStr z) with
    | some d, some e => ∃ v, RelV v e.val ∧ ∀ H, DV K H d v
    | none, none => True
    | _, _ => False)
  | [], [], _ => ⟨rfl, trivial⟩
  | [], _ :: _, h => by simp only [entB] at h; cases h
  | _ :: _, [], h => by simp only [entB] at h; cases h
  | p :: ps, e :: es, h => by
    simp only [entB] at h
    obtain ⟨h1, h2⟩ := ba h
    obtain ⟨i1, i2⟩ := entB_ok z h2
    obtain ⟨kh, kk, kv⟩ := e
    cases kk <;> first | (cases h1; done) | skip
    rename_i y t
    obtain ⟨h3, h4⟩ := ba h1
    have e3 : p.1 = y := of_decide_eq_true h3
    obtain ⟨pk, pd⟩ := p
    dsimp only at e3 h4
    subst e3
    refine ⟨?_, ?_⟩
    · rw [List.any_cons, i1]; rfl
    · rw [List.lookup_cons, List.find?_cons]
      by_cases q : z = pk
      · subst q
        have b1 : (z == z) = true := by simp
        have b2 : (Value.isStr (.str z t) z) = true := by simp [Value.isStr]
        simp only [b1, b2]
        exact dvB_ok h4
      · have b1 : (z == pk) = false := by simpa using q
        have b2 : (Value.isStr (.str pk t) z) = false := by simp [Value.isStr]; exact fun e => q e.symm
        simp only [b1, b2]
        exact i2
def tabB (K : PySem.W.Frag) (x : Str) (kvs : List (Str × D)) : Bool := match K.lookup (ga K x) with
  | some ⟨_, _, .dict es _, _⟩ => entB K kvs es.toList
  | _ => false
theorem tabB_ok {K : PySem.W.Frag} {x : Str} {kvs : List (Str × D)} (h : tabB K x kvs = true) (z : Str) : ∃ r, PySem.W.nsIn K (ga K x) z = some r ∧ (match kvs.lookup z, r with
    | some d, some u => ∃ v, RelV v u ∧ ∀ H, DV K H d v
    | none, none => True
    | _, _ => False) := by
  unfold tabB at h
  split at h
  · rename_i oc od es n sl e
    obtain ⟨h1, h2⟩ := entB_ok z h
    unfold PySem.W.nsIn
    rw [e]
    dsimp only
    cases q : es.toList.find? (·.key.isStr z) with
    | some en =>
      rw [q] at h2
      refine ⟨some en.val, rfl, ?_⟩
      cases q2 : kvs.lookup z with
      | none => rw [q2] at h2; exact h2.elim
      | some d => rw [q2] at h2; exact h2
    | none =>
      rw [q] at h2
      refine ⟨none, by rw [h1]; rfl, ?_⟩
      cases q2 : kvs.lookup z with
      | none => trivial
      | some d => rw [q2] at h2; exact h2.elim
  · cases h
theorem tabOk_of {X : Cx} {T : TB} {names : List Str} (hn : ∀ x, T x ≠ [] → x ∈ names) (hk : ∀ x ∈ names, ∃ es n, KDict X.K X.w (ga X.K x) es n) (hb : ∀ x ∈ names, tabB X.K x (T x) = true) : TabOk X T := fun x hx => by
  obtain ⟨es, n, D⟩ := hk x (hn x hx)
  exact ⟨es, n, D, tabB_ok (hb x (hn x hx))⟩
/-! ### fields -/
def fldB (K : PySem.W.Frag) (l : List (Str × List Str)) : Bool := l.all fun p => (He.Fa.cls p.1).ok K && p.2.all fun f => (He.Fa.noat p.1 f).ok K
theorem fldOk_of {X : Cx} {F : FTab} {l : List (Str × List Str)} (hF : ∀ C f, f ∈ F C → ∃ p ∈ l, p.1 = C ∧ f ∈ p.2) (h : fldB X.K l = true) : FldOk X F := fun C f hf => by
  obtain ⟨p, hp, rfl, hq⟩ := hF C f hf
  obtain ⟨h1, h2⟩ := ba (List.all_eq_true.mp h p hp)
  exact ⟨He.cls_ok h1, He.noat_ok (List.all_eq_true.mp h2 f hq)⟩
/-! ### errors -/
def subB (K : PySem.W.Frag) (l : List (Str × Str × Bool)) : Bool := l.all fun p => decide (PySem.W.exmOne K (.ref (ga K p.1)) (.ref (ga K p.2.1)) = some p.2.2) && decide (PySem.W.kitOne K (.ref (ga K p.1)) (.ref (ga K p.2.1)) = some p.2.2)
def xcB (K : PySem.W.Frag) (C : Addr) : Bool := xfB K C && (decide (PySem.W.findIn K (.ref C) "__class__" = some (some (.builtin "object.__class__"))) && (decide (PySem.W.specialIn K (.builtin "object.__class__") "__get__" = some (some (.builtin "getset_descriptor.__get__"))) &&
  (decide (PySem.W.takesIn K (.builtin "object.__class__") = some true) && decide (PySem.W.mroIn K C (.type "object") = some true))))
theorem xcB_ok {K : PySem.W.Frag} {C : Addr} (h : xcB K C = true) : ExcC K C ∧ XfC K C := by
  obtain ⟨h1, h⟩ := ba h
  obtain ⟨h2, h⟩ := ba h
  obtain ⟨h3, h⟩ := ba h
  obtain ⟨h4, h5⟩ := ba h
  have x := xfB_ok h1
  exact ⟨⟨x.ga, x.gg, x.exC, x.hdC, of_decide_eq_true h2, of_decide_eq_true h3, of_decide_eq_true h4, of_decide_eq_true h5⟩, x⟩
theorem subOk_of {K : PySem.W.Frag} {T : STab} {l : List (Str × Str × Bool)} (hT : ∀ C Y b, T C Y = some b → (C, Y, b) ∈ l) (h : subB K l = true) (hx : ∀ p ∈ l, xcB K (ga K p.1) = true) : SubOk K T where
  exm := fun C Y b e => of_decide_eq_true (ba (List.all_eq_true.mp h _ (hT C Y b e))).1
  kit := fun C Y b e => of_decide_eq_true (ba (List.all_eq_true.mp h _ (hT C Y b e))).2
  xc := fun C Y b e => xcB_ok (hx _ (hT C Y b e))
/-- an error class C, its __init__ of the class D keeps the parameter p as the field fld -/
structure ExD where
  C : Str
  D : Str
  qual : Str
  params : Arguments
  body : List Stmt
  scope : Scope
  fld : Str
abbrev FnE : Type := Option (Str × Str × Arguments × FuncBody × Scope × Addr × List Str × Addr)
def fnE (K : PySem.W.Frag) (d : ExD) : FnE := match K.lookup (fAd K (d.D, some "__init__")) with
  | some ⟨_, _, .func fd, _⟩ => some (fd.name, fd.qualname, fd.params, fd.body, fd.scope, fd.globals, fd.closure.map (·.1), fd.builtins)
  | _ => none
def ExD.val (d : ExD) : FnE := some ("__init__", d.qual, d.params, .stmts d.body, d.scope, mainGlobals, ["__class__"], builtinsNs)
def fdIn (K : PySem.W.Frag) (f : Addr) (g : FuncData → Bool) : Bool := match K.lookup f with
  | some ⟨_, _, .func fd, _⟩ => g fd
  | _ => false
def noneB : Value → Bool
  | .none => true
  | _ => false
def fileB (P : Program) (K : PySem.W.Frag) (v : Value) : Bool := match v with
  | .ref cda => (match K.lookup cda with
    | some ⟨_, _, .fields vs, _⟩ => (match (vs[2]? : Option Value) with
      | some (.str file _) => (P.main.file : Str) == file
      | _ => false)
    | _ => false)
  | _ => false
def cellB (K : PySem.W.Frag) (D : Addr) (cl : List (Str × Addr)) : Bool := match cl with
  | [(_, cc)] => (match K.lookup cc with
    | some ⟨_, _, .cell (some (.ref a)), _⟩ => a == D
    | _ => false)
  | _ => false
def exBl (P : Program) (K : PySem.W.Frag) (d : ExD) : List Bool :=
  let C := ga K d.C
  let fI := fAd K (d.D, some "__init__")
  [PySem.W.excInitIn K C ExS.veL "ValueError.__new__", (PySem.W.clsIn K C).any (fun cd => HandSPX.refsVE cd.mro && cd.hasDict), decide (PySem.W.findIn K (.ref C) "__setattr__" = some (some (.builtin "object.__setattr__"))), decide (PySem.W.findIn K (.ref C) d.fld = some none),
  decide (PySem.W.findIn K (.ref C) "__init__" = some (some (.ref fI))), decide (PySem.W.typeIn K (.ref fI) = some (.type "function")), PySem.W.keepIn K (.ref C), decide (PySem.W.subIn K (.ref C) (.type "BaseException") = some true),
  decide (PySem.W.subIn K (.ref C) (.type "ValueError") = some true), decide (PySem.W.typeIn K (.ref C) = some (.type "type")), (PySem.W.clsIn K (ga K d.D)).isSome, decide (PySem.W.mroIn K C (.ref (ga K d.D)) = some true),
  decide (PySem.W.nsIn K mainGlobals "super" = some none), decide (PySem.W.nsIn K cStatics "thirdparty.any" = some none), decide (PySem.W.ks_superIn K C (ga K d.D) "__init__" = some (some (.builtin "ValueError.__init__"))),
  fdIn K fI fun fd => noneB fd.defaults, fdIn K fI fun fd => PySem.W.codeIn K fd.code d.qual, fdIn K fI fun fd => fileB P K fd.code, fdIn K fI fun fd => cellB K (ga K d.D) fd.closure]
def exB (P : Program) (K : PySem.W.Frag) (d : ExD) : Bool := (exBl P K d).all id
/-- the text of such an __init__ -/
def exBody (q1 q2 q3 q4 q5 q6 q7 q8 q9 : Pos) (msg : Expr) (p fld : Str) : List Stmt := [.Expr (.Call (.Attribute (.Call (.Name "super" q1) [] [] q2) "__init__" q3) [msg] [] q4) q5, .Assign [.Attribute (.Name "self" q6) fld q7] (.Name p q8) q9]
structure ExText (d : ExD) (p : Str) (msg : Expr) : Prop where
  ex : ∃ (nms : List (Str × NameKind)) (mo : List (Str × Const)) (q1 q2 q3 q4 q5 q6 q7 q8 q9 : Pos) (ar : Arg), d.scope = ⟨.function, nms, false, false, mo⟩ ∧ d.body = exBody q1 q2 q3 q4 q5 q6 q7 q8 q9 msg p d.fld ∧ (d.params.posonlyargs ++ d.params.args).head? = some ar ∧ ar.arg = "self" ∧ (q3.endLine == q4.line) = true ∧
    (∀ x ∈ nms, x.2 ≠ .cell) ∧ nms.lookup ("super" : Str) = some .globalImplicit ∧ nms.lookup ("__class__" : Str) = some .free ∧ nms.lookup ("self" : Str) = some .local ∧ nms.lookup p = some .local
  bind : ∀ (qual : Str) (body : List Stmt) (sc : Scope) (kV doc pm : Value) (an : Option Addr) (cda : Addr) (ct : Value) (cc : Addr) (us : List Value), us.length = 2 → bindArgs (PySem.W.ksFn "__init__" qual d.params body sc .none kV doc pm an (.ref cda) ct cc) ⟨us, []⟩ = pure ((["self", p] : List Str).zip us)
  star : ∀ env, starEach [msg] env = [(false, eval msg env)]
  db : (p == ("__debug__" : Str)) = false
  ps : p ≠ "self"
theorem exTxt_of {P : Program} {K : PySem.W.Frag} {d : ExD} {p : Str} {msg : Expr} (e : fnE K d = d.val) (c : exB P K d = true) (T : ExText d p msg) (top : (P.main.scope.names.lookup ("super" : Str)).isSome = false) : ExS.ExTxt P K (ga K d.C) (ga K d.D) (fAd K (d.D, some "__init__")) p d.fld msg := by
  have k : ∀ (j : Nat) {b : Bool}, (exBl P K d)[j]? = some b → b = true := fun j b e => List.all_eq_true.mp c b (List.mem_of_getElem? e)
  refine ⟨k 0 rfl, k 1 rfl, of_decide_eq_true (k 2 rfl), of_decide_eq_true (k 3 rfl), of_decide_eq_true (k 4 rfl), of_decide_eq_true (k 5 rfl), k 6 rfl, of_decide_eq_true (k 7 rfl), of_decide_eq_true (k 8 rfl), of_decide_eq_true (k 9 rfl), k 10 rfl, of_decide_eq_true (k 11 rfl), of_decide_eq_true (k 12 rfl), of_decide_eq_true (k 13 rfl), of_decide_eq_true (k 14 rfl), top, ?_⟩
  have d1 := k 15 rfl
  have d2 := k 16 rfl
  have d3 := k 17 rfl
  have d4 := k 18 rfl
  unfold fdIn at d1 d2 d3 d4
  unfold fnE at e
  cases q : K.lookup (fAd K (d.D, some "__init__")) with
  | none => rw [q] at d1; cases d1
  | some o =>
    obtain ⟨oc, od, dt, osl⟩ := o
    rw [q] at d1 d2 d3 d4 e
    cases dt with
    | func fd =>
      obtain ⟨n1, n2, n3, n4, n5, n6, n7, n8, n9, n10, n11, n12, n13, n14, n15⟩ := fd
      have e2 : (some (n1, n2, n3, n4, n5, n6, n7.map (·.1), n15) : FnE) = (some (PySem.Str.ofString "__init__", d.qual, d.params, FuncBody.stmts d.body, d.scope, mainGlobals, [PySem.Str.ofString "__class__"], builtinsNs) : FnE) := e
      simp only [Option.some.injEq, Prod.mk.injEq] at e2
      obtain ⟨h1, h2, h3, h4, h5, h6, h7, h8⟩ := e2
      obtain ⟨⟨nms, mo, q1, q2, q3, q4, q5, q6, q7, q8, q9, ar, s1, s2, s3, s4, s5, s6, s7, s8, s9, s10⟩, tb, ts, tdb, tps⟩ := T
      subst h1 h2 h3 h4 h5 h6 h8
      dsimp only at d1 d2 d3 d4
      cases n8 <;> first | (cases d1; done) | skip
      cases n13 <;> first | (cases d3; done) | skip
      rename_i cda
      simp only [fileB] at d3
      split at d3
      · rename_i ccl cdd vs ccs hcda
        split at d3
        · rename_i file tf hvs
          cases n7 with
          | nil => cases d4
          | cons c0 cr =>
            obtain ⟨nm, cc⟩ := c0
            cases cr with
            | cons _ _ => cases d4
            | nil =>
              have en : nm = PySem.Str.ofString "__class__" := by simpa using h7
              subst en
              simp only [cellB] at d4
              split at d4
              · rename_i cl cld a csl hcc
                have ea : a = ga K d.D := beq_iff_eq.mp d4
                subst ea
                refine ⟨oc, od, d.qual, d.params, nms, mo, .none, n9, n10, n11, n12, cda, n14, osl, cc, cl, cld, csl, ccl, cdd, ccs, vs, file, tf, q1, q2, q3, q4, q5, q6, q7, q8, q9, ar, ?_, d2, hcda, hvs, d3, hcc, s3, s4, tb _ _ _ _ _ _ _ _ _ _, s6, s7, s8, s9, s10, tdb, tps, s5, ts⟩
                rw [← s1]
                have s2' := s2
                unfold exBody at s2'
                rw [← s2']
              · cases d4
        · cases d3
      · cases d3
    | _ => cases d1
/-! ### tables told as lists -/
def tbOf (l : List (Str × List (Str × D))) : TB := fun x => (l.lookup x).getD []
def ftOf (l : List (Str × List Str)) : FTab := fun x => (l.lookup x).getD []
def stOf (l : List (Str × Str × Bool)) : STab := fun C Y => (l.find? fun p => decide (p.1 = C) && decide (p.2.1 = Y)).map (·.2.2)
theorem lookup_mem' {β : Type} {x : Str} {b : β} : ∀ {l : List (Str × β)}, l.lookup x = some b → (x, b) ∈ l
  | [], h => by cases h
  | (y, c) :: l, h => by
    rw [List.lookup_cons] at h
    cases q : x == y with
    | true =>
      rw [q] at h
      have e : x = y := by simpa using q
      subst e
      cases h
      exact List.mem_cons_self ..
    | false => rw [q] at h; exact List.mem_cons_of_mem _ (lookup_mem' h)
theorem tbOf_in {l : List (Str × List (Str × D))} {x : Str} (h : tbOf l x ≠ []) : x ∈ l.map (·.1) := by
  unfold tbOf at h
  cases q : l.lookup x with
  | none => rw [q] at h; exact absurd rfl h
  | some b => exact List.mem_map.mpr ⟨_, lookup_mem' q, rfl⟩
theorem ftOf_in {l : List (Str × List Str)} {C f : Str} (h : f ∈ ftOf l C) : ∃ p ∈ l, p.1 = C ∧ f ∈ p.2 := by
  unfold ftOf at h
  cases q : l.lookup C with
  | none => rw [q] at h; cases h
  | some b => rw [q] at h; exact ⟨_, lookup_mem' q, rfl, h⟩
theorem stOf_in {l : List (Str × Str × Bool)} {C Y : Str} {b : Bool} (h : stOf l C Y = some b) : (C, Y, b) ∈ l := by
  unfold stOf at h
  cases q : l.find? fun p => decide (p.1 = C) && decide (p.2.1 = Y) with
  | none => rw [q] at h; cases h
  | some p =>
    rw [q] at h
    have e : p.2.2 = b := by simpa using h
    have m := List.mem_of_find?_eq_some q
    have z := List.find?_some q
    simp only [Bool.and_eq_true, decide_eq_true_eq] at z
    rw [← e, ← z.1, ← z.2]
    exact m
/-! ### the Hook -/
abbrev AlE : Type := He.AlT × (List FnE × Bool)
def obsE (fa : List He.Fa) (fn : List He.DefD) (ts : List He.Tab) (xs : List ExD) (ex : PySem.W.Frag → Bool) (K : PySem.W.Frag) : AlE := (He.obsT fa fn ts K, xs.map (fnE K), ex K)
def valE (fn : List He.DefD) (ts : List He.Tab) (xs : List ExD) (w : World) : AlE := (He.valT fn ts w, xs.map ExD.val, true)
def obsEG (n : Nat) (fa : List He.Fa) (fn : List He.DefD) (ts : List He.Tab) (xs : List ExD) (ex : PySem.W.Frag → Bool) (g : Addr → Option Obj) : AlE := obsE fa fn ts xs ex (He.frG g (cStatics :: He.asD g n))
def hookE (n : Nat) (fa : List He.Fa) (fn : List He.DefD) (ts : List He.Tab) (xs : List ExD) (ex : PySem.W.Frag → Bool) : PySem.W.Hook where
  α := AlE
  obs := fun s => obsEG n fa fn ts xs ex s.heap.get?
  val := fun w => valE fn ts xs w
  says := fun w h => ∃ K : PySem.W.Frag, K.In h ∧ obsE fa fn ts xs ex K = valE fn ts xs w
  of := fun _ _ e => ⟨_, He.frG_in, e⟩
  keeps := fun _ _ _ ⟨K, hK, c⟩ k => ⟨K, PySem.W.Frag.In.keeps hK k, c⟩
theorem obsEG_eq {n : Nat} {fa : List He.Fa} {fn : List He.DefD} {ts : List He.Tab} {xs : List ExD} {ex : PySem.W.Frag → Bool} {g : Addr → Option Obj} {s : Shared} (h : ∀ a, g a = s.heap.get? a) : obsEG n fa fn ts xs ex g = (hookE n fa fn ts xs ex).obs s := by
  have e : g = s.heap.get? := funext h
  rw [e] <;> rfl
end L2.EV
set_option maxHeartbeats 1000000
/-! EV18: laws of the words: comprehensions, memory. -/
namespace L2.EV
open PySem PySem.Spec PyProof.Rows
theorem sub_new {m : Mem} {p : Addr} {o : MO} (hp : m p = none) : Sub m (mup m p o) := (Sub.refl m).new hp
theorem sub_upd {m m' : Mem} {p : Addr} {o : MO} (h : Sub m m') (hp : m p = none) : Sub m (mup m' p o) := fun a u e => by
  rw [mup_ne (ne_new e hp)]; exact h a u e
/-- a comprehension whose element changes nothing: f of the items for which b holds -/
theorem lc_gen {G : Mem → Prop} {g : EG} {t : ET} {r : EE} {p : Addr} {e : Sl} {Qf : Mem → Prop} {f : D → D} {b : D → Bool} {se : D → Sl} {m0 : Mem} (hp : m0 p = none) (hG : ∀ m', Sub m0 m' → G m') : ∀ (items acc : List D) (m : Mem),
    (∀ x ∈ items, ∀ m k, k (se x) m → g x e m k) → (∀ x ∈ items, ∀ m k, Sub m0 m → (∀ m', Sub m m' → k (b x) m') → t (se x) m k noX) →
    (∀ x ∈ items, b x = true → ∀ m k, Sub m0 m → (∀ m', Sub m m' → k (f x) m') → r (se x) m k noX) → acc.length + items.length ≤ sizeLine → Sub m0 m → m p = some (.lst acc) →
    (∀ m', Sub m0 m' → m' p = some (.lst (acc ++ (items.filter b).map f)) → Qf m') → lcN G g t r p e Qf items m
  | [], acc, m, _, _, _, _, hm, hmp, hf => ⟨hG m hm, hf m hm (by simpa using hmp)⟩
  | x :: xs, acc, m, hg, ht, hr, hz, hm, hmp, hf => by
    refine ⟨hG m hm, hg x (List.mem_cons_self ..) m _ (ht x (List.mem_cons_self ..) m _ hm fun m1 s1 => ⟨fun hb => ?_, fun hb => ?_⟩)⟩
    · refine hr x (List.mem_cons_self ..) hb m1 _ (hm.trans s1) fun m2 s2 => ⟨acc, s2 p _ (s1 p _ hmp), ?_, ?_⟩
      · rw [List.length_cons] at hz; omega
      · refine lc_gen hp hG xs (acc ++ [f x]) _ (fun y hy => hg y (List.mem_cons_of_mem _ hy)) (fun y hy => ht y (List.mem_cons_of_mem _ hy)) (fun y hy => hr y (List.mem_cons_of_mem _ hy)) (by rw [List.length_append, List.length_singleton]; rw [List.length_cons] at hz; omega) (sub_upd (hm.trans (s1.trans s2)) hp) mup_same fun m' s' e' => hf m' s' ?_
        rw [e', List.filter_cons_of_pos hb, List.map_cons, List.append_assoc]; rfl
    · refine lc_gen hp hG xs acc m1 (fun y hy => hg y (List.mem_cons_of_mem _ hy)) (fun y hy => ht y (List.mem_cons_of_mem _ hy)) (fun y hy => hr y (List.mem_cons_of_mem _ hy)) (by rw [List.length_cons] at hz; omega) (hm.trans s1) (s1 p _ hmp) fun m' s' e' => hf m' s' ?_
      rw [e', List.filter_cons_of_neg (by rw [hb]; exact Bool.false_ne_true)]
theorem lc_map {G : Mem → Prop} {i : Nat} {r : EE} {p : Addr} {e : Sl} {Qf : Mem → Prop} (f : D → D) {m0 m : Mem} {items : List D} (hp : m0 p = none) (hG : ∀ m', Sub m0 m' → G m')
    (hr : ∀ x ∈ items, ∀ m k, Sub m0 m → (∀ m', Sub m m' → k (f x) m') → r (e.set i (some x)) m k noX) (hz : items.length ≤ sizeLine) (hm : Sub m0 m) (hmp : m p = some (.lst [])) (hf : ∀ m', Sub m0 m' → m' p = some (.lst (items.map f)) → Qf m') :
    lcN G (gN i) tYesD r p e Qf items m := by
  refine lc_gen (f := f) (b := fun _ => true) (se := fun x => e.set i (some x)) hp hG items [] m (fun x _ m k h => h) (fun x _ m k _ h => h m (Sub.refl m)) (fun x hx _ => hr x hx) (by simpa using hz) hm hmp fun m' s' e' => hf m' s' ?_
  rw [e', List.nil_append, List.filter_eq_self.mpr (fun _ _ => rfl)]
theorem cmpOk_int {i : Int} : cmpOk (.int i) := ⟨rfl, by show 0 ≤ 60; decide⟩
theorem cmpOk_str {z : Str} (h : PyData.strOk z = true) : cmpOk (.str z) := ⟨h, by show 0 ≤ 60; decide⟩
theorem cmpOk_non : cmpOk .non := ⟨rfl, by show 0 ≤ 60; decide⟩
theorem dEq_int {i j : Int} {m : Mem} {Q : QD} : dEq (.int i) (.int j) m Q = Q (.bl (decide (i = j))) m := by
  simp only [dEq, norm, cmpOk_int, true_and, eqD]; rw [show (i == j) = decide (i = j) from rfl]
theorem dNe_int {i j : Int} {m : Mem} {Q : QD} : dNe (.int i) (.int j) m Q = Q (.bl (!decide (i = j))) m := by
  simp only [dNe, norm, cmpOk_int, true_and, eqD]; rw [show (i == j) = decide (i = j) from rfl]
theorem dEq_str {i j : Str} {m : Mem} {Q : QD} (hi : PyData.strOk i = true) (hj : PyData.strOk j = true) : dEq (.str i) (.str j) m Q = Q (.bl (decide (i = j))) m := by
  simp only [dEq, norm, cmpOk_str hi, cmpOk_str hj, true_and, eqD]; rw [show (i == j) = decide (i = j) from by by_cases q : i = j <;> simp [q]]
theorem dNe_str {i j : Str} {m : Mem} {Q : QD} (hi : PyData.strOk i = true) (hj : PyData.strOk j = true) : dNe (.str i) (.str j) m Q = Q (.bl (!decide (i = j))) m := by
  simp only [dNe, norm, cmpOk_str hi, cmpOk_str hj, true_and, eqD]; rw [show (i == j) = decide (i = j) from by by_cases q : i = j <;> simp [q]]
/-! ### fields -/
def fldG (F : FTab) (f : Str) (d : D) (m : Mem) (Q : QD) : Prop := eFld F f (eK d) [] m Q noX
theorem eFld_eq {F : FTab} {f : Str} {a : EE} {e : Sl} {m : Mem} {Q : QD} {X : XD} : eFld F f a e m Q X = a e m (fun d m1 => fldG F f d m1 Q) X := rfl
theorem fldG_ref {F : FTab} {f C : Str} {p : Addr} {m : Mem} {Q : QD} {fs : List (Str × D)} {d : D} (h : m p = some (.ins C fs)) (hf : f ∈ F C) (hl : fs.lookup f = some d) : fldG F f (.ref p) m Q = Q d m := by
  simp [fldG, eFld, eK, h, hf, hl, someQ]
end L2.EV
set_option maxHeartbeats 1000000
/-! EV19: what is no longer needed may be forgotten: at the end of a def, round by round of a for. -/
namespace L2.EV
open PySem PySem.Spec PyProof.Rows
/-- in a memory that knows no more -/
def shM (P : Mem → Prop) (m : Mem) : Prop := ∃ m', Sub m' m ∧ P m'
theorem shM_of {P : Mem → Prop} {m : Mem} (h : P m) : shM P m := ⟨m, Sub.refl m, h⟩
def zsS (Q : QD) (X : XD) : Zs := { nx := fun _ m => shM (Q .non) m, rt := fun d m => shM (Q d) m, bk := fun _ _ => False, ct := fun _ _ => False, ex := fun c d _ m => shM (X c d) m }
theorem zsS_eq {Q : QD} {X : XD} : zsS Q X = zsOf (fun d m => shM (Q d) m) (fun c d m => shM (X c d) m) := rfl
/-- a for that forgets -/
def forS (G : Mem → Prop) (g : EG) (b : ES) (Z : Zs) : List D → Sl → Mem → Prop
  | [], e, m => G m ∧ Z.nx e m
  | x :: xs, e, m => G m ∧ g x e m (fun e1 m1 => b e1 m1 { nx := fun e2 m2 => shM (forS G g b Z xs e2) m2, ct := fun e2 m2 => shM (forS G g b Z xs e2) m2, bk := Z.nx, rt := Z.rt, ex := Z.ex })
def sForS (it : EI) (g : EG) (b : ES) : ES := fun e m Z => it e m (fun T m1 => forS T.G g b Z T.items e m1) (xs_ Z e)
section
variable {X : Cx} {W : WX} {pos : Pos} {tg : Expr}
theorem sv_forS {iter : Expr} {body : List Stmt} {it : EI} {g : EG} {b : ES} (hp : PassesOwn (model X.prog X.w) X.A X.env X.xe) (hc : X.calm = true) (hi : PI X tg iter (RI X.K W it)) (hg : PG X tg (RG X.K g)) (hb : PSs X body (RS X.K W b))
    (hs : ∀ x, foldedSetIterable iter X.env x = pure x := by intro _; rfl) : PS X (.For tg iter body [] pos) (RS X.K W (sForS it g b)) :=
  PSimp (ps_for hp hc hi hg hb hs) fun D σ H ⟨e, m, Z, hE, hM, h, hZ⟩ => by
    refine ⟨e, m, _, _, hE, hM, h, fun T m1 H1 J h1 k1 hM1 IT => ?_, hZ.xe hE⟩
    refine ⟨fun i k σ' H' => k = T.items.length - i ∧ i ≤ T.items.length ∧ ∃ e' m', SlOk X.K H' e' σ' ∧ MemOk X.K m' H' ∧ Keep X.K H1 H' ∧ forS T.G g b Z (T.items.drop i) e' m', ⟨T.items.length, by simp, Nat.zero_le _, e, m1, hE.keep k1, hM1, Keep.refl _, by simpa using h1⟩, ?_⟩
    rintro i k σ' H' ⟨rfl, hi, e', m', hE', hM', k', h'⟩
    by_cases hlt : i < T.items.length
    · have ed : T.items.drop i = T.items[i] :: T.items.drop (i + 1) := List.drop_eq_getElem_cons hlt
      rw [ed] at h'
      obtain ⟨hG, h'⟩ := h'
      refine .inr ⟨IT.go i m' H' k' hM' hG hlt, fun σ2 H2 => ∃ e2 m2, SlOk X.K H2 e2 σ2 ∧ MemOk X.K m2 H2 ∧ Keep X.K H1 H2 ∧ forS T.G g b Z (T.items.drop (i + 1)) e2 m2, fun σ2 H2 q => ⟨T.items.length - (i + 1), by omega, rfl, hlt, q⟩, fun x H2 y => ?_⟩
      obtain ⟨k2, hM2, dx⟩ := IT.yld i m' H' x H2 _ k' hM' hG (List.getElem?_eq_getElem hlt) y
      refine ⟨_, e', m', _, hE'.keep k2, hM2, dx, h', fun e3 m3 σ3 H3 h3 k3 hE3 hM3 => ?_⟩
      have kk : Keep X.K H1 H3 := k'.trans (k2.trans k3)
      exact ⟨e3, m3, _, hE3, hM3, h3, ⟨fun e4 m4 σ4 H4 ⟨m5, sb, h4⟩ k4 hE4 hM4 => ⟨e4, m5, hE4, hM4.sub sb, kk.trans k4, h4⟩, (hZ.keep (k1.trans kk)).rt, (hZ.keep (k1.trans kk)).nx, fun e4 m4 σ4 H4 ⟨m5, sb, h4⟩ k4 hE4 hM4 => ⟨e4, m5, hE4, hM4.sub sb, kk.trans k4, h4⟩, (hZ.keep (k1.trans kk)).ex⟩⟩
    · have ei : i = T.items.length := by omega
      subst ei
      rw [List.drop_length] at h'
      exact .inl ⟨IT.stop m' H' k' hM' h'.1, hZ.nx e' m' σ' H' h'.2 (k1.trans k') hE' hM'⟩
end
section
variable {P : Program} {w : World} {K : PySem.W.Frag} {mg : Str → Option Value} {base : Heap} {k n : Nat} {g : SPEC} {dd : List D} {f : Addr} {fd : FuncData} {x qual : Str} {pa : Arguments} {body : List Stmt} {sc : Scope} {dvs dvs' : List V} {kws : List (Str × V)} {N ps : List Str} {ds : List Value} {r : ES}
/-- a promise over what is forgotten -/
def shG (g : SPEC) : SPEC := fun ds m Q X => g ds m (fun d m' => shM (Q d) m') (fun c d m' => shM (X c d) m')
theorem FnA.shr (F : FnA P w K mg base k n g dd f) : FnA P w K mg base k n (shG g) dd f := by
  obtain ⟨⟨fd, ps, ds, dvs, h1, h2, h3, h4⟩, ar⟩ := F
  refine ⟨⟨fd, ps, ds, dvs, h1.imp fun vs H Q E ⟨hl, ds, m, Q0, X0, hM, hd, hg, hQ, hX⟩ => ⟨hl, ds, m, _, _, hM, hd, hg, ?_, ?_⟩, h2, h3, h4⟩, fun ds m Q X q => ar _ _ _ _ q⟩
  · exact fun d m' H' v ⟨m3, sb, q⟩ k hM' dv => hQ d m3 H' v q k (hM'.sub sb) dv
  · exact fun c dx m' H' ⟨m3, sb, q⟩ k hM' => hX c dx m3 H' q k (hM'.sub sb)
/-- without defaults, forgetting -/
theorem fnS_N (F : FunD K x qual pa body sc [] kws f fd) (S : FnScope N ps sc)
    (hb : ∀ (kV doc pm : Value) (an : Option Addr) (cdv ct : Value) (us : List Value), us.length = ps.length → bindArgs (PySem.W.fnOf x qual pa body sc .none kV doc pm an cdv ct) ⟨us, []⟩ = pure (ps.zip us))
    (ar : ∀ ds m Q X, g ds m Q X → ds.length = ps.length)
    (hw : ∀ (cdv : Value) (A : Around) (outer : List Env) (s : Shared) (H : Hp) (E : XK), Room k (A.deeper (envOfC qual sc s.heap.objs.size f cdv)) → PSs (cxOf (L2.CX P w) P w K mg base N qual sc f cdv A outer s H E) body (RS K (wE E) r))
    (hl : ∀ ds m Q X, g ds m Q X → r (startD N.length ds) m (zsS Q X)) : FnA P w K mg base (k + 1) ps.length g [] f := by
  have F1 : FnA P w K mg base (k + 1) ps.length (fun ds m Q X => ∃ Q' X', g ds m Q' X' ∧ Q = (fun d m => shM (Q' d) m) ∧ X = (fun c d m => shM (X' c d) m)) [] f := by
    refine fnA_N F S hb (fun ds m Q X ⟨Q', X', h, _, _⟩ => ar ds m Q' X' h) hw fun ds m Q X ⟨Q', X', h, e1, e2⟩ => ?_
    subst e1 e2
    exact hl ds m Q' X' h
  obtain ⟨⟨fd, ps, ds, dvs, h1, h2, h3, h4⟩, _⟩ := F1
  refine ⟨⟨fd, ps, ds, dvs, h1.imp fun vs H Q E ⟨hl, ds, m, Q0, X0, hM, hd, hg, hQ, hX⟩ => ⟨hl, ds, m, _, _, hM, hd, ⟨Q0, X0, hg, rfl, rfl⟩, ?_, ?_⟩, h2, h3, h4⟩, fun ds m Q X q => ar _ _ _ _ q⟩
  · exact fun d m' H' v ⟨m3, sb, q⟩ k hM' dv => hQ d m3 H' v q k (hM'.sub sb) dv
  · exact fun c dx m' H' ⟨m3, sb, q⟩ k hM' => hX c dx m3 H' q k (hM'.sub sb)
end
/-! ### comprehensions whose parts change nothing -/
theorem lc_go {G : Mem → Prop} {i : Nat} {t : ET} {r : EE} {p : Addr} {e : Sl} {Qf : Mem → Prop} {m : Mem} {f : D → D} {b : D → Bool} (hG : ∀ acc, G (mup m p (.lst acc))) : ∀ (items acc : List D),
    (∀ x ∈ items, ∀ acc k, k (b x) (mup m p (.lst acc)) → t (e.set i (some x)) (mup m p (.lst acc)) k noX) → (∀ x ∈ items, b x = true → ∀ acc k, k (f x) (mup m p (.lst acc)) → r (e.set i (some x)) (mup m p (.lst acc)) k noX) →
    acc.length + items.length ≤ sizeLine → Qf (mup m p (.lst (acc ++ (items.filter b).map f))) → lcN G (gN i) t r p e Qf items (mup m p (.lst acc))
  | [], acc, _, _, _, h => ⟨hG acc, by simpa using h⟩
  | x :: xs, acc, ht, hr, hz, h => by
    refine ⟨hG acc, ht x (List.mem_cons_self ..) acc _ ⟨fun hb => ?_, fun hb => ?_⟩⟩
    · refine hr x (List.mem_cons_self ..) hb acc _ ⟨acc, mup_same, ?_, ?_⟩
      · rw [List.length_cons] at hz; omega
      · rw [mup_mup]
        refine lc_go hG xs (acc ++ [f x]) (fun y hy => ht y (List.mem_cons_of_mem _ hy)) (fun y hy => hr y (List.mem_cons_of_mem _ hy)) (by rw [List.length_append, List.length_singleton]; rw [List.length_cons] at hz; omega) ?_
        rw [List.filter_cons_of_pos hb, List.map_cons] at h
        rw [List.append_assoc]; exact h
    · refine lc_go hG xs acc (fun y hy => ht y (List.mem_cons_of_mem _ hy)) (fun y hy => hr y (List.mem_cons_of_mem _ hy)) (by rw [List.length_cons] at hz; omega) ?_
      rw [List.filter_cons_of_neg (by rw [hb]; exact Bool.false_ne_true)] at h
      exact h
theorem lc_ex {G : Mem → Prop} {i : Nat} {t : ET} {r : EE} {p : Addr} {e : Sl} {Qf : Mem → Prop} {m : Mem} {items : List D} (f : D → D) (b : D → Bool) (hG : ∀ acc, G (mup m p (.lst acc)))
    (ht : ∀ x ∈ items, ∀ acc k, k (b x) (mup m p (.lst acc)) → t (e.set i (some x)) (mup m p (.lst acc)) k noX) (hr : ∀ x ∈ items, b x = true → ∀ acc k, k (f x) (mup m p (.lst acc)) → r (e.set i (some x)) (mup m p (.lst acc)) k noX)
    (hz : items.length ≤ sizeLine) (h : Qf (mup m p (.lst ((items.filter b).map f)))) : lcN G (gN i) t r p e Qf items (mup m p (.lst [])) :=
  lc_go hG items [] ht hr (by simpa using hz) (by simpa using h)
theorem lc_exM {G : Mem → Prop} {i : Nat} {r : EE} {p : Addr} {e : Sl} {Qf : Mem → Prop} {m : Mem} {items : List D} (f : D → D) (hG : ∀ acc, G (mup m p (.lst acc)))
    (hr : ∀ x ∈ items, ∀ acc k, k (f x) (mup m p (.lst acc)) → r (e.set i (some x)) (mup m p (.lst acc)) k noX)
    (hz : items.length ≤ sizeLine) (h : Qf (mup m p (.lst (items.map f)))) : lcN G (gN i) tYesD r p e Qf items (mup m p (.lst [])) :=
  lc_ex f (fun _ => true) hG (fun _ _ _ _ h => h) (fun x hx _ => hr x hx) hz (by rw [List.filter_eq_self.mpr (fun _ _ => rfl)]; exact h)
/-! ### what stays but at one place -/
def Sx (a : Addr) (m m' : Mem) : Prop := ∀ b o, m b = some o → b ≠ a → m' b = some o
end L2.EV
set_option maxHeartbeats 1000000
/-! EV20: the end of a law. -/
namespace L2.EV
open PySem PySem.Spec PyProof.Rows
section
variable {P : Program} {w : World} {K : PySem.W.Frag} {mg : Str → Option Value} {base : Heap} {k n : Nat} {g : SPEC} {dd : List D} {f : Addr} {fd : FuncData} {x qual : Str} {pa : Arguments} {body : List Stmt} {sc : Scope} {dvs dvs' : List V} {kws : List (Str × V)} {N ps : List Str} {ds : List Value} {r : ES}
/-- the def itself, forgetting (the law's own) -/
theorem fnOkS (F : FunD K x qual pa body sc dvs kws f fd) (S : FnScope N ps sc)
    (ar : ∀ ds m Q X, g ds m Q X → ds.length = ps.length)
    (hw : ∀ (cdv : Value) (A : Around) (outer : List Env) (s : Shared) (H : Hp) (E : XK), Room k (A.deeper (envOfC qual sc s.heap.objs.size f cdv)) → PSs (cxOf (L2.CX P w) P w K mg base N qual sc f cdv A outer s H E) body (RS K (wE E) r))
    (hl : ∀ ds m Q X, g ds m Q X → r (startD N.length ds) m (zsS Q X)) : FnOk P w K mg base (L2.CX P w) (k + 1) f fd ps (spOf K ps.length g) := by
  refine F.ok S (fun vs H Q E h => h.1) fun cdv A outer s H vs Q E hr ⟨_, ds, m, Q0, X0, hM, hd, h, hQ, hX⟩ => ⟨_, hw cdv A outer s H E hr, ?_⟩
  refine ⟨startD N.length ds, m, zsS Q0 X0, startD_ok hd, hM, hl ds m Q0 X0 h, ?_⟩
  exact ⟨fun e' m' σ' H' ⟨m3, sb, q⟩ k hE hM' => hQ _ m3 H' _ q k (hM'.sub sb) (by simp only [DV]), fun d m' H' v ⟨m3, sb, q⟩ k hM' dv => hQ d m3 H' v q k (hM'.sub sb) dv, fun _ _ _ _ q => q.elim, fun _ _ _ _ q => q.elim, fun c dx e' m' σ' H' ⟨m3, sb, q⟩ k _ hM' => hX c dx m3 H' q k (hM'.sub sb)⟩
/-- a promise that nothing asks -/
theorem fnA_false (F : FunD K x qual pa body sc [] kws f fd) (S : FnScope N ps sc)
    (hb : ∀ (kV doc pm : Value) (an : Option Addr) (cdv ct : Value) (us : List Value), us.length = ps.length → bindArgs (PySem.W.fnOf x qual pa body sc .none kV doc pm an cdv ct) ⟨us, []⟩ = pure (ps.zip us))
    (hg : ∀ ds m Q X, ¬ g ds m Q X) : FnA P w K mg base 1 ps.length g [] f :=
  fnA_N (k := 0) (r := fun _ _ _ => False) F S hb (fun ds m Q X h => (hg _ _ _ _ h).elim) (fun cdv A outer s H E hr => ⟨fun pins s σ H D I ⟨e, m, Z, _, _, h, _⟩ => h.elim⟩) (fun ds m Q X h => (hg _ _ _ _ h).elim)
end
theorem cx_no {P : Program} (w : World) (H : Hp) (s : Shared) (e : Value) (s' : Shared) (h : L2.CX P w [] H s (fun _ _ _ => False) e s') : False := by
  obtain ⟨_, _, _, _, _, _, _, _, _, _, _, _, h⟩ := h
  exact h
/-- the script as a tree -/
theorem scr_spec {K : PySem.W.Frag} {H : Hp} {a : Addr} {ns : List Int} {g : SPEC} (hS : SqL K H a (ns.map V.int)) (hg : ∀ m d Q X, lisOf m d = some (ns.map D.int) → (∀ m', Q (.bl true) m') → g [d] m Q X) : spOf K 1 g [.ref a] H (fun v _ => v = .bl true) fun _ _ _ => False := by
  have fin : ∀ (d : D) (m : Mem), MemOk K m H → DV K H d (.ref a) → lisOf m d = some (ns.map D.int) → spOf K 1 g [.ref a] H (fun v _ => v = .bl true) fun _ _ _ => False := fun d m hM hd hl =>
    ⟨rfl, [d], m, fun d _ => d = .bl true, fun _ _ _ => False, hM, .cons hd .nil, hg m d _ _ hl (fun _ => rfl), fun d' m' H' v e k hM' dv => by subst e; simpa only [DV] using dv, fun _ _ _ _ q => q.elim⟩
  have frz : FzL K H a (ns.map V.int) → spOf K 1 g [.ref a] H (fun v _ => v = .bl true) fun _ _ _ => False := fun h =>
    fin (.lis (ns.map D.int)) (fun _ => none) (fun _ _ e => by cases e) (by simp only [DV]; exact ⟨a, _, rfl, h, DVs.ints ns⟩) rfl
  rcases hS with (h | ⟨o, h⟩) | h
  · refine fin (.ref a) (fun b => if b = a then some (.lst (ns.map D.int)) else none) (fun b o e => ?_) (by simp only [DV]) (by simp [lisOf])
    simp only at e
    by_cases q : b = a
    · subst q
      rw [if_pos rfl] at e; cases e
      exact ⟨_, h, DVs.ints ns⟩
    · rw [if_neg q] at e; cases e
  · exact frz (.inl ⟨o, h⟩)
  · exact frz (.inr h)
end L2.EV
set_option maxHeartbeats 1000000
/-! K01S: what the defs of k01 promise. -/
namespace L2.EV
open PySem PySem.Spec PyProof.Rows
/-- things that are tuples or lists -/
def lstd (m : Mem) : D → Option (List D)
  | .tup xs => some xs
  | .ct xs => some xs
  | .lis xs => some xs
  | .ref a => (match m a with
    | some (.lst xs) => some xs
    | _ => none)
  | _ => none
def typed (m : Mem) (d : D) : Prop := (∃ a, tyN m d = some a) ∧ (∀ z, d = .str z → z.length ≤ sizeLine ∧ PyData.strOk z = true) ∧ ∀ xs, d ≠ .ct xs
def isIntD (d : D) (lo hi : Int) : Bool := match d with
  | .int i => decide (lo ≤ i) && decide (i ≤ hi)
  | _ => false
def g_is_integer : SPEC := fun ds m Q _ => ∃ d lo hi, ds = [d, .int lo, .int hi] ∧ typed m d ∧ Q (.bl (isIntD d lo hi)) m
def g_is_listed : SPEC := fun ds m Q _ => ∃ d, ds = [d] ∧ typed m d ∧ Q (.bl (lstd m d).isSome) m
def okT : Nat → Mem → D → Prop
  | 0, m, d => typed m d
  | n + 1, m, d => typed m d ∧ ∀ xs, lstd m d = some xs → xs.length ≤ sizeLine ∧ ∀ x ∈ xs, okT n m x
def deepD : Nat → Mem → D → D
  | 0, _, d => d
  | n + 1, m, d => match lstd m d with
    | some xs => .tup (xs.map (deepD n m))
    | none => d
def g_deepN (k : Nat) : SPEC := fun ds m Q _ => ∃ d n, ds = [d, .int (n : Nat)] ∧ n ≤ k ∧ okT n m d ∧ ∀ m', Sub m m' → Q (deepD n m d) m'
def g_deep : SPEC := g_deepN 30
def asc : List Nat → Bool
  | a :: b :: r => decide (a < b) && asc (b :: r)
  | _ => true
def g_is_ascending : SPEC := fun ds m Q _ => ∃ z, ds = [.str z] ∧ z.length ≤ 3 ∧ ∀ m', Sub m m' → Q (.bl (asc z.cps.toList)) m'
def abc : Str := "abcdef"
def namesOk : D → Bool
  | .str z => decide (1 ≤ z.length) && decide (z.length ≤ 3) && (z.cps.toList.all fun c => abc.cps.toList.contains c) && asc z.cps.toList
  | _ => false
def g_is_names : SPEC := fun ds m Q _ => ∃ d, ds = [d] ∧ typed m d ∧ ∀ m', Sub m m' → Q (.bl (namesOk d)) m'
def g_check_names : SPEC := fun ds m Q X => ∃ d, ds = [d] ∧ typed m d ∧ (namesOk d = true → ∀ m', Sub m m' → Q .non m') ∧ (namesOk d = false → ∀ m' p, Sub m m' → m' p = none → X "BadNames" (some p) (mup m' p (.xd [("thing", d)])))
def termOk (z : Str) : D → Bool
  | .str x => decide (x = "nil") || (decide (x.length = 1) && (x.cps.toList.all fun c => z.cps.toList.contains c))
  | _ => false
def g_is_term : SPEC := fun ds m Q _ => ∃ z d, ds = [.str z, d] ∧ typed m d ∧ Q (.bl (termOk z d)) m
/-! ### sheets -/
def formL : List (Str × Str) := [("yes", ""), ("no", ""), ("bare", ""), ("same", "tt"), ("holds", "t"), ("link", "tt"), ("way", "tt"), ("tied", "tt"), ("one", "tt"), ("row", "tt"), ("not", "n"), ("and", "nn"), ("or", "nn"), ("apart", "nn"), ("adds", "nn")]
def formOf (w : Str) : Option Str := formL.lookup w
def partOk (z : Str) (k : Int) (s : Nat) (a : D) : Bool := if s = 116 then termOk z a else if s = 110 then isIntD a 0 (k - 1) else true
def partsOk (z : Str) (k : Int) : List Nat → List D → Bool
  | s :: ss, a :: as => partOk z k s a && partsOk z k ss as
  | _, _ => true
def nodeOk (z : Str) (m : Mem) (d : D) (k : Int) : Bool := match lstd m d with
  | some (.str w :: args) => (match formOf w with
    | some fm => decide (args.length = fm.length) && partsOk z k fm.cps.toList args
    | none => false)
  | _ => false
def g_is_node : SPEC := fun ds m Q _ => ∃ z d k, ds = [.str z, d, .int k] ∧ okT 1 m d ∧ ∀ m', Sub m m' → Q (.bl (nodeOk z m d k)) m'
def badAt (z : Str) (m : Mem) : Nat → List D → Option Nat
  | _, [] => none
  | k, d :: ds => if nodeOk z m d k = true then badAt z m (k + 1) ds else some k
/-- the number at which the sheet is bad -/
def sheetBad (z : Str) (m : Mem) (d : D) : Option Int := match lstd m d with
  | none => some (-1)
  | some xs => if 1 ≤ xs.length ∧ xs.length ≤ 2000 then (badAt z m 0 xs).map Int.ofNat else some (-1)
def g_sheet_over : SPEC := fun ds m Q X => ∃ z d, ds = [.str z, d] ∧ okT 30 m d ∧ match sheetBad z m d with
  | some k => ∀ m' p, Sub m m' → m' p = none → X "BadSheet" (some p) (mup m' p (.xd [("number", .int k)]))
  | none => ∀ m', Sub m m' → Q (deepD 30 m d) m'
def g_checked_sheet : SPEC := fun ds m Q X => ∃ c d, ds = [c, d] ∧ typed m c ∧ okT 30 m d ∧
  (namesOk c = false → ∀ m' p, Sub m m' → m' p = none → X "BadNames" (some p) (mup m' p (.xd [("thing", c)]))) ∧
  (∀ z, c = .str z → namesOk c = true → match sheetBad z m d with
    | some k => ∀ m' p, Sub m m' → m' p = none → X "BadSheet" (some p) (mup m' p (.xd [("number", .int k)]))
    | none => ∀ m', Sub m m' → Q (deepD 30 m d) m')
def refsOf : List Nat → List D → List D
  | s :: ss, a :: as => if s = 110 then a :: refsOf ss as else refsOf ss as
  | _, _ => []
def g_referred : SPEC := fun ds m Q _ => ∃ d w args fm, ds = [d] ∧ (∀ xs, d ≠ .ct xs) ∧ lstd m d = some (.str w :: args) ∧ args.length < 1000 ∧ formOf w = some fm ∧ ∀ m' p, Sub m m' → m p = none → m' p = some (.lst (refsOf fm.cps.toList args)) → Q (.ref p) m'
/-! ### words -/
def dK : Key → D
  | .inl i => .int i
  | .inr s => .str s
/-- a node as a tuple -/
def dN (ks : List Key) : D := .tup (ks.map dK)
def known (ns : List (List Key)) : List (List Key × D) := ns.zipIdx.map fun p => (p.1, .int (p.2 : Nat))
structure ListerAt (m : Mem) (l n k : Addr) (ns : List (List Key)) : Prop where
  ins : m l = some (.ins "Lister" [("nodes", .ref n), ("known", .ref k)])
  nodes : m n = some (.lst (ns.map dN))
  known : m k = some (.dT (EV.known ns))
def idxOf (ks : List Key) (ns : List (List Key)) : Nat := ns.findIdx fun x => decide (x = ks)
def inN (ks : List Key) (ns : List (List Key)) : Bool := ns.any fun x => decide (x = ks)
theorem inN_iff {ks : List Key} {ns : List (List Key)} : inN ks ns = true ↔ ks ∈ ns := by simp [inN]
/-- a node listed, its number -/
def putN (ns : List (List Key)) (ks : List Key) : List (List Key) × Nat := if inN ks ns = true then (ns, idxOf ks ns) else (ns ++ [ks], ns.length)
def g_Lister___init__ : SPEC := fun ds m Q _ => ∃ l, ds = [.ref l] ∧ m l = some (.ins "Lister" []) ∧ ∀ m' n k, (∀ a o, m a = some o → a ≠ l → m' a = some o) → m n = none → m k = none → ListerAt m' l n k [] → Q .non m'
def g_Lister_put : SPEC := fun ds m Q _ => ∃ l n k ns ks, ds = [.ref l, dN ks] ∧ ListerAt m l n k ns ∧ ns.length < 1000000 ∧ ∀ m', (∀ a o, m a = some o → a ≠ n → a ≠ k → m' a = some o) → ListerAt m' l n k (putN ns ks).1 → Q (.int ((putN ns ks).2 : Nat)) m'
/-- how a text is cut into words: the word, where it begins, where it ends; or where the text is bad -/
def isLow (c : Nat) : Bool := decide (97 ≤ c) && decide (c ≤ 122)
def scanW (l : List Nat) (here : Nat) : Except Nat (Str × Nat × Nat) :=
  match l[here]? with
  | none => .ok ("", here, here)
  | some c => if c = 40 ∨ c = 41 then .ok (⟨#[c]⟩, here, here + 1) else
    let w := (l.drop here).takeWhile isLow
    if w = [] then .error here else .ok (⟨w.toArray⟩, here, here + w.length)
def scanF (l : List Nat) (at_ : Nat) (last : Str) : Except Nat (Str × Nat × Nat) :=
  if last = "" ∨ last = "(" then scanW l at_ else
  match l[at_]? with
  | none => scanW l at_
  | some 32 => (match l[at_ + 1]? with
    | none => .error (at_ + 1)
    | some 41 => .error (at_ + 1)
    | _ => scanW l (at_ + 1))
  | some 41 => scanW l at_
  | _ => .error at_
def g_scanned : SPEC := fun ds m Q X => ∃ t at_ last, ds = [.str t, .int (at_ : Nat), .str last] ∧ at_ ≤ t.length ∧ t.length ≤ 1000000 ∧ PyData.strOk t = true ∧ PyData.strOk last = true ∧ (match scanF t.cps.toList at_ last with
  | .ok (w, b, e) => Q (.tup [.str w, .int (b : Nat), .int (e : Nat)]) m
  | .error k => ∀ p, m p = none → X "BadText" (some p) (mup m p (.xd [("at", .int (k : Nat))])))
/-! ### the reader of sayings: its state (stacks: the newest first) -/
structure Lv where
  ops : List Nat
  joins : List Str
  nots : Nat
structure Rd where
  letters : Str
  ns : List (List Key)
  lvs : List Lv
  aw : Str
  begun : List Key
  opened : Nat
/-- a level's addresses: itself, its operands, its joins -/
abbrev LA : Type := Addr × Addr × Addr
structure RA' where
  r : Addr
  l : Addr
  n : Addr
  k : Addr
  v : Addr
  la : List LA
def dI (i : Nat) : D := .int (i : Nat)
structure LvAt (m : Mem) (a : LA) (L : Lv) : Prop where
  ins : m a.1 = some (.ins "Level" [("operands", .ref a.2.1), ("joins", .ref a.2.2), ("nots", .int (L.nots : Nat))])
  ops : m a.2.1 = some (.lst (L.ops.map dI).reverse)
  joins : m a.2.2 = some (.lst (L.joins.map D.str).reverse)
def AllAt (m : Mem) : List LA → List Lv → Prop
  | [], [] => True
  | a :: as, L :: Ls => LvAt m a L ∧ AllAt m as Ls
  | _, _ => False
def lists (A : RA') : List Addr := A.n :: A.v :: A.la.flatMap fun a => [a.2.1, a.2.2]
structure RdAt (m : Mem) (A : RA') (R : Rd) : Prop where
  ins : m A.r = some (.ins "SayingReader" [("letters", .str R.letters), ("lister", .ref A.l), ("levels", .ref A.v), ("awaited", .str R.aw), ("begun", dN R.begun), ("opened", .int (R.opened : Nat))])
  lis : ListerAt m A.l A.n A.k R.ns
  lev : m A.v = some (.lst (A.la.map fun a => D.ref a.1).reverse)
  all : AllAt m A.la R.lvs
  sep : (lists A).Nodup
  sepL : (A.la.map (·.1)).Nodup
def fpA (A : RA') : List Addr := A.r :: A.l :: A.k :: (lists A ++ A.la.map (·.1))
/-- what stands elsewhere stays -/
def Frm (A : RA') (m m' : Mem) : Prop := ∀ a o, m a = some o → a ∉ fpA A → m' a = some o
/-- what a reader has newly: it stood nowhere before -/
def Fro (A A' : RA') (m : Mem) : Prop := ∀ c ∈ fpA A', c ∈ fpA A ∨ m c = none
def bindL : List (Str × Nat) := [("adds", 0), ("or", 1), ("and", 2), ("apart", 3), ("not", 4)]
def bindOf (w : Str) : Option Nat := bindL.lookup w
/-- reduce: what binds as strong as b is put together -/
def reduceS (b : Nat) : List (List Key) → List Nat → List Str → List (List Key) × List Nat × List Str
  | ns, s :: f :: ops, j :: js => if b ≤ (bindOf j).getD 0 then reduceS b (putN ns [.inr j, .inl (f : Nat), .inl (s : Nat)]).1 ((putN ns [.inr j, .inl (f : Nat), .inl (s : Nat)]).2 :: ops) js else (ns, s :: f :: ops, j :: js)
  | ns, ops, js => (ns, ops, js)
/-- the words not ahead of an operand are put round it -/
def notsS : Nat → List (List Key) → Nat → List (List Key) × Nat
  | 0, ns, i => (ns, i)
  | k + 1, ns, i => notsS k (putN ns [.inr "not", .inl (i : Nat)]).1 (putN ns [.inr "not", .inl (i : Nat)]).2
def finishR (R : Rd) (i : Nat) : Rd := match R.lvs with
  | [] => R
  | L :: Ls => { R with ns := (notsS L.nots R.ns i).1, lvs := { L with ops := (notsS L.nots R.ns i).2 :: L.ops, nots := 0 } :: Ls, opened := R.opened - L.nots, aw := "join" }
def reduceR (R : Rd) (b : Nat) : Rd := match R.lvs with
  | [] => R
  | L :: Ls => { R with ns := (reduceS b R.ns L.ops L.joins).1, lvs := { L with ops := (reduceS b R.ns L.ops L.joins).2.1, joins := (reduceS b R.ns L.ops L.joins).2.2 } :: Ls }
def putR (R : Rd) (ks : List Key) : Rd := finishR { R with ns := (putN R.ns ks).1 } (putN R.ns ks).2
def takeOperand (R : Rd) (w : Str) : Rd × Bool :=
  if w = "(" ∨ w = "not" then
    if R.opened = 30 then (R, false) else
    if w = "(" then ({ R with opened := R.opened + 1, lvs := ⟨[], [], 0⟩ :: R.lvs }, true) else
    (match R.lvs with
      | [] => (R, false)
      | L :: Ls => ({ R with opened := R.opened + 1, lvs := { L with nots := L.nots + 1 } :: Ls }, true))
  else if w = "yes" ∨ w = "no" ∨ w = "bare" then (putR R [.inr w], true)
  else if w = "holds" then ({ R with begun := [.inr "holds"], aw := "term" }, true)
  else ({ R with begun := [.inr w], aw := "relation" }, termOk R.letters (.str w))
def takeJoin (R : Rd) (w : Str) : Rd × Bool := match R.lvs with
  | [] => (R, false)
  | L :: Ls =>
    if w = ")" then (match Ls with
      | [] => (R, false)
      | _ :: _ => (match (reduceR R 0).lvs with
        | L' :: _ => (finishR { reduceR R 0 with lvs := Ls, opened := R.opened - 1 } (L'.ops.getLast?.getD 0), true)
        | [] => (R, false)))
    else (match bindOf w with
      | none => (R, false)
      | some b => if w = "not" ∨ (w = "adds" ∧ ("adds" : Str) ∈ L.joins) then (R, false) else
        (match (reduceR R b).lvs with
          | L' :: Ls' => ({ reduceR R b with lvs := { L' with joins := w :: L'.joins } :: Ls', aw := "operand" }, true)
          | [] => (R, false)))
def relL : List Str := ["same", "link", "way", "tied", "one", "row"]
def takeWord (R : Rd) (w : Str) : Rd × Bool :=
  if R.aw = "operand" then takeOperand R w else
  if R.aw = "join" then takeJoin R w else
  if R.aw = "relation" then if w ∈ relL then ({ R with begun := .inr w :: R.begun, aw := "term" }, true) else (R, false) else
  if termOk R.letters (.str w) = true then (putR R (R.begun ++ [.inr w]), true) else (R, false)
def g_Level___init__ : SPEC := fun ds m Q _ => ∃ a, ds = [.ref a] ∧ m a = some (.ins "Level" []) ∧ ∀ m' o j, (∀ b u, m b = some u → b ≠ a → m' b = some u) → m o = none → m j = none → o ≠ j → LvAt m' (a, o, j) ⟨[], [], 0⟩ → Q .non m'
def g_SayingReader_finish : SPEC := fun ds m Q _ => ∃ A R i L Ls, ds = [.ref A.r, dI i] ∧ RdAt m A R ∧ R.lvs = L :: Ls ∧ L.nots ≤ R.opened ∧ R.ns.length + L.nots < 1000000 ∧ L.ops.length < 1000000 ∧ ∀ m', Frm A m m' → RdAt m' A (finishR R i) → Q .non m'
def g_SayingReader_may_end : SPEC := fun ds m Q _ => ∃ A R, ds = [.ref A.r] ∧ RdAt m A R ∧ PyData.strOk R.aw = true ∧ Q (.bl (decide (R.aw = "join") && decide (R.lvs.length = 1))) m
def g_SayingReader_reduce : SPEC := fun ds m Q _ => ∃ A R a as L Ls b, ds = [.ref A.r, .ref a.1, dI b] ∧ RdAt m A R ∧ A.la = a :: as ∧ R.lvs = L :: Ls ∧ (∀ j ∈ L.joins, (bindOf j).isSome = true) ∧ L.joins.length + 1 = L.ops.length ∧ L.ops.length < 1000000 ∧ R.ns.length + L.joins.length < 1000000 ∧ ∀ m', Frm A m m' → RdAt m' A (reduceR R b) → Q .non m'
def g_SayingReader_whole : SPEC := fun ds m Q _ => ∃ A R L, ds = [.ref A.r] ∧ RdAt m A R ∧ R.lvs = [L] ∧ (∀ j ∈ L.joins, (bindOf j).isSome = true) ∧ L.joins.length + 1 = L.ops.length ∧ L.ops.length < 1000000 ∧ R.ns.length + L.joins.length < 1000000 ∧ ∀ m', Frm A m m' → Q (.tup ((reduceR R 0).ns.map dN)) m'
/-- what the reader's numbers are within -/
structure RdOk (R : Rd) : Prop where
  top : ∃ L Ls, R.lvs = L :: Ls ∧ L.nots ≤ R.opened ∧ R.ns.length + L.nots + 1 < 1000000 ∧ L.ops.length < 1000000
  lev : R.lvs.length < 1000000
  opn : R.opened ≤ 30
def wordOk (w : Str) : Prop := w.length ≤ sizeLine ∧ PyData.strOk w = true
def g_SayingReader_take_operand : SPEC := fun ds m Q _ => ∃ A R w, ds = [.ref A.r, .str w] ∧ RdAt m A R ∧ RdOk R ∧ wordOk w ∧ ∀ m' A', A'.r = A.r → Fro A A' m → Frm A m m' → RdAt m' A' (takeOperand R w).1 → Q (.bl (takeOperand R w).2) m'
/-- what must hold ahead of a word behind an operand -/
structure JoinOk (R : Rd) : Prop where
  top : ∃ L Ls, R.lvs = L :: Ls ∧ (∀ j ∈ L.joins, (bindOf j).isSome = true ∧ PyData.strOk j = true) ∧ L.joins.length + 1 = L.ops.length ∧ L.ops.length < 1000000 ∧ R.ns.length + L.joins.length < 1000000 ∧ ∀ M Ms, Ls = M :: Ms → M.nots + 1 ≤ R.opened ∧ R.ns.length + L.joins.length + M.nots < 1000000 ∧ M.ops.length < 1000000
  opn : R.opened ≤ 30
  aw : PyData.strOk R.aw = true
def g_SayingReader_take_join : SPEC := fun ds m Q _ => ∃ A R w, ds = [.ref A.r, .str w] ∧ RdAt m A R ∧ JoinOk R ∧ wordOk w ∧ ∀ m' A', A'.r = A.r → Fro A A' m → Frm A m m' → RdAt m' A' (takeJoin R w).1 → Q (.bl (takeJoin R w).2) m'
def g_SayingReader_take_word : SPEC := fun ds m Q _ => ∃ A R w, ds = [.ref A.r, .str w] ∧ RdAt m A R ∧ RdOk R ∧ (R.aw = "join" → JoinOk R) ∧ R.begun.length ≤ 2 ∧ PyData.strOk R.aw = true ∧ wordOk w ∧ ∀ m' A', A'.r = A.r → Fro A A' m → Frm A m m' → RdAt m' A' (takeWord R w).1 → Q (.bl (takeWord R w).2) m'
def newRd (z : Str) : Rd := ⟨z, [], [⟨[], [], 0⟩], "operand", [], 0⟩
def g_SayingReader___init__ : SPEC := fun ds m Q _ => ∃ r z, ds = [.ref r, .str z] ∧ m r = some (.ins "SayingReader" []) ∧ ∀ m' A, A.r = r → (∀ c u, m c = some u → c ≠ r → m' c = some u) → (∀ c ∈ fpA A, c ≠ r → m c = none) → RdAt m' A (newRd z) → Q .non m'
end L2.EV
set_option maxHeartbeats 1000000
namespace L2.EV
open PySem PySem.Spec PyProof.Rows
def top (i : Nat) : Stmt := PySem.Challenge.pw_anyhelper_k01_whole_sayings_read.main.body.getD i (.Pass ⟨0, 0, 0, 0⟩)
abbrev c_LETTERS : D := (.str "abcdef")
abbrev c_NIL : D := (.str "nil")
abbrev c_MOST_NODES : D := (.int 2000)
abbrev c_FORMS : D := .glob "FORMS"
abbrev c_MOST_OPEN : D := (.int 30)
abbrev c_BINDING : D := .glob "BINDING"
abbrev c_RELATIONS : D := (.ct [(.str "same"), (.str "link"), (.str "way"), (.str "tied"), (.str "one"), (.str "row")])
abbrev c_ALONE : D := (.ct [(.str "yes"), (.str "no"), (.str "bare")])
def tabl : List (Str × List (Str × D)) := [("FORMS", [("yes", (.str "")), ("no", (.str "")), ("bare", (.str "")), ("same", (.str "tt")), ("holds", (.str "t")), ("link", (.str "tt")), ("way", (.str "tt")), ("tied", (.str "tt")), ("one", (.str "tt")), ("row", (.str "tt")), ("not", (.str "n")), ("and", (.str "nn")), ("or", (.str "nn")), ("apart", (.str "nn")), ("adds", (.str "nn"))]), ("BINDING", [("adds", (.int 0)), ("or", (.int 1)), ("and", (.int 2)), ("apart", (.int 3)), ("not", (.int 4))])]
def TT : TB := tbOf tabl
def fldl : List (Str × List Str) := [("Lister", ["nodes", "known"]), ("Level", ["operands", "joins", "nots"]), ("SayingReader", ["letters", "lister", "levels", "awaited", "begun", "opened"])]
def FF : FTab := ftOf fldl
/-- which error is caught as which -/
def subl : List (Str × Str × Bool) := [("BadNames", "HelpError", true), ("BadNames", "BadSheet", false), ("BadNames", "BadNames", true), ("BadNames", "BadText", false), ("BadSheet", "HelpError", true), ("BadSheet", "BadSheet", true), ("BadSheet", "BadNames", false), ("BadSheet", "BadText", false), ("BadText", "HelpError", true), ("BadText", "BadSheet", false), ("BadText", "BadNames", false), ("BadText", "BadText", true)]
def SS : STab := stOf subl
/-- what the top tells the walks -/
structure Md (P : Program) (K : PySem.W.Frag) (w : World) (mg : Str → Option Value) : Prop where
  n_abs : mg "abs" = none
  n_all : mg "all" = none
  n_bool : mg "bool" = none
  n_enumerate : mg "enumerate" = none
  n_int : mg "int" = none
  n_isinstance : mg "isinstance" = none
  n_len : mg "len" = none
  n_list : mg "list" = none
  n_range : mg "range" = none
  n_str : mg "str" = none
  n_sum : mg "sum" = none
  n_tuple : mg "tuple" = none
  n_zip : mg "zip" = none
  g_LETTERS : GV K mg "LETTERS" c_LETTERS
  g_NIL : GV K mg "NIL" c_NIL
  g_MOST_NODES : GV K mg "MOST_NODES" c_MOST_NODES
  g_FORMS : GV K mg "FORMS" c_FORMS
  g_MOST_OPEN : GV K mg "MOST_OPEN" c_MOST_OPEN
  g_BINDING : GV K mg "BINDING" c_BINDING
  g_RELATIONS : GV K mg "RELATIONS" c_RELATIONS
  g_ALONE : GV K mg "ALONE" c_ALONE
  e_BadNames : ExC P w K mg "BadNames" "thing" okAny
  e_BadSheet : ExC P w K mg "BadSheet" "number" okInt
  e_BadText : ExC P w K mg "BadText" "at" okInt
  sub : SubOk K SS
  x_HelpError : mg "HelpError" = some (.ref (He.ga K "HelpError"))
  x_BadSheet : mg "BadSheet" = some (.ref (He.ga K "BadSheet"))
  x_BadNames : mg "BadNames" = some (.ref (He.ga K "BadNames"))
  x_BadText : mg "BadText" = some (.ref (He.ga K "BadText"))
  nof_at : ∀ {Y : Str} C b, SS C Y = some b → PySem.W.findIn K (.ref (He.ga K C)) "at" = some none
  nof_number : ∀ {Y : Str} C b, SS C Y = some b → PySem.W.findIn K (.ref (He.ga K C)) "number" = some none
  nof_thing : ∀ {Y : Str} C b, SS C Y = some b → PySem.W.findIn K (.ref (He.ga K C)) "thing" = some none
  f_referred : mg "referred" = some (.ref (He.ga K "referred"))
  f_renumbered : mg "renumbered" = some (.ref (He.ga K "renumbered"))
  tab : ∀ X : Cx, X.K = K → X.w = w → TabOk X TT
  fld : ∀ X : Cx, X.K = K → FldOk X FF
/-! is_integer -/
abbrev N_is_integer : List Str := ["thing", "low", "high"]
abbrev P_is_integer : List Str := ["thing", "low", "high"]
theorem S_is_integer : FnScope N_is_integer P_is_integer (defScope (top 10)) := ⟨rfl, rfl, rfl, by decide +kernel, rfl, by decide +kernel, by decide +kernel⟩
def r_is_integer : ES :=
  (sRet (eAnd (eB bIsi (aCons (eVar 0) (aCons (eK (.ty "int")) aNil))) (eAnd (eNot (eB bIsi (aCons (eVar 0) (aCons (eK (.ty "bool")) aNil)))) (eChain dLe dLe (eVar 1) (eVar 0) (eVar 2)))))
theorem w_is_integer {P : Program} {w : World} {K : PySem.W.Frag} {mg : Str → Option Value} {base : Heap} {k : Nat} {f : Addr} {cdv : Value} {A : Around} {outer : List Env} {s : Shared} {H : Hp} {E : XK} (M : Md P K w mg) 
    (hr : Room (k + 1) (A.deeper (envOfC "is_integer" (defScope (top 10)) s.heap.objs.size f cdv))) :
    PSs (cxOf (L2.CX P w) P w K mg base N_is_integer "is_integer" (defScope (top 10)) f cdv A outer s H E) (defBody (top 10)) (RS K (wE E) r_is_integer) := by
  have S := S_is_integer
  exact (sv_one (sv_ret (ev_and (b_isi M.n_isinstance (av_cons (ev_var 0) (av_cons (ev_ty M.n_int (by decide +kernel)) av_nil))) (ev_and (ev_not (b_isi M.n_isinstance (av_cons (ev_var 0) (av_cons (ev_ty M.n_bool (by decide +kernel)) av_nil)))) (ev_one (ev_chain o_le o_le (ev_var 1) (ev_var 0) (ev_var 2)))))))
/-! is_listed -/
abbrev N_is_listed : List Str := ["thing"]
abbrev P_is_listed : List Str := ["thing"]
theorem S_is_listed : FnScope N_is_listed P_is_listed (defScope (top 11)) := ⟨rfl, rfl, rfl, by decide +kernel, rfl, by decide +kernel, by decide +kernel⟩
def r_is_listed : ES :=
  (sRet (eB bIsi (aCons (eVar 0) (aCons (eTup (aCons (eK (.ty "tuple")) (aCons (eK (.ty "list")) aNil))) aNil))))
theorem w_is_listed {P : Program} {w : World} {K : PySem.W.Frag} {mg : Str → Option Value} {base : Heap} {k : Nat} {f : Addr} {cdv : Value} {A : Around} {outer : List Env} {s : Shared} {H : Hp} {E : XK} (M : Md P K w mg) 
    (hr : Room (k + 1) (A.deeper (envOfC "is_listed" (defScope (top 11)) s.heap.objs.size f cdv))) :
    PSs (cxOf (L2.CX P w) P w K mg base N_is_listed "is_listed" (defScope (top 11)) f cdv A outer s H E) (defBody (top 11)) (RS K (wE E) r_is_listed) := by
  have S := S_is_listed
  exact (sv_one (sv_ret (b_isi M.n_isinstance (av_cons (ev_var 0) (av_cons (ev_tup (av_cons (ev_ty M.n_tuple (by decide +kernel)) (av_cons (ev_ty M.n_list (by decide +kernel)) av_nil))) av_nil)))))
/-! deep -/
abbrev N_deep : List Str := ["thing", "room", "item"]
abbrev P_deep : List Str := ["thing", "room"]
theorem S_deep : FnScope N_deep P_deep (defScope (top 12)) := ⟨rfl, rfl, rfl, by decide +kernel, rfl, by decide +kernel, by decide +kernel⟩
def r_deep (g_deep : SPEC) : ES :=
  (sSeq (sIf (tOr (tNot (tTru (eCall g_is_listed [] (aCons (eVar 0) aNil)))) (tOf (eBin dEq (eVar 1) (eK (.int 0)))))
   (sRet (eVar 0))
   sNil)
  (sRet (eB bTuple (aCons (eLc (iSeq (eVar 0)) (gN 2) tYesD (eCall g_deep [] (aCons (eVar 2) (aCons (eBin dSub (eVar 1) (eK (.int 1))) aNil))) [2]) aNil))))
theorem w_deep {P : Program} {w : World} {K : PySem.W.Frag} {mg : Str → Option Value} {base : Heap} {k : Nat} {f : Addr} {cdv : Value} {A : Around} {outer : List Env} {s : Shared} {H : Hp} {E : XK} (M : Md P K w mg) {g_deep : SPEC} (F_deep : FnG P w K mg base (k + 1) 2 g_deep [] "deep") (F_is_listed : FnG P w K mg base (k + 1) 1 g_is_listed [] "is_listed")
    (hr : Room (k + 1) (A.deeper (envOfC "deep" (defScope (top 12)) s.heap.objs.size f cdv))) :
    PSs (cxOf (L2.CX P w) P w K mg base N_deep "deep" (defScope (top 12)) f cdv A outer s H E) (defBody (top 12)) (RS K (wE E) (r_deep g_deep)) := by
  have S := S_deep
  exact (sv_seq (sv_if (PW.pt (tv_or (tv_not (tv_tru (ev_call F_is_listed hr (takes_of rfl rfl rfl rfl) (av_cons (ev_var 0) av_nil)))) (tv_or1 (ev_tcmp (o_eq (roomU hr)) (ev_var 1) ev_int))))
   (sv_one (sv_ret (ev_var 0)))
   sv_nil)
  (sv_one (sv_ret (b_tuple M.n_tuple (av_cons (ev_lc [("item", 2)] rfl S.nd (pi_seq (ev_var 0)) (blkOk_by (by kernel_rfl)) (fun _ _ _ _ _ => (gw_name 2 S.nd)) (fun _ _ _ _ _ => tvs_nil) (fun _ _ _ _ _ => (ev_call F_deep hr takes0 (av_cons (ev_var 2) (av_cons (ev_bin o_sub (ev_var 1) ev_int) av_nil))))) av_nil)))))
/-! is_ascending -/
abbrev N_is_ascending : List Str := ["letters", "k"]
abbrev P_is_ascending : List Str := ["letters"]
theorem S_is_ascending : FnScope N_is_ascending P_is_ascending (defScope (top 13)) := ⟨rfl, rfl, rfl, by decide +kernel, rfl, by decide +kernel, by decide +kernel⟩
def r_is_ascending : ES :=
  (sRet (eB bAll (aCons (eLc (iR1 (aCons (eBin dSub (eB bLen (aCons (eVar 0) aNil)) (eK (.int 1))) aNil)) (gN 1) tYesD (eBin dLt (eBin (dIx TT) (eVar 0) (eVar 1)) (eBin (dIx TT) (eVar 0) (eBin dAdd (eVar 1) (eK (.int 1))))) [1]) aNil)))
theorem w_is_ascending {P : Program} {w : World} {K : PySem.W.Frag} {mg : Str → Option Value} {base : Heap} {k : Nat} {f : Addr} {cdv : Value} {A : Around} {outer : List Env} {s : Shared} {H : Hp} {E : XK} (M : Md P K w mg) 
    (hr : Room (k + 1) (A.deeper (envOfC "is_ascending" (defScope (top 13)) s.heap.objs.size f cdv))) :
    PSs (cxOf (L2.CX P w) P w K mg base N_is_ascending "is_ascending" (defScope (top 13)) f cdv A outer s H E) (defBody (top 13)) (RS K (wE E) r_is_ascending) := by
  have S := S_is_ascending
  have hT : TabOk (cxOf (L2.CX P w) P w K mg base N_is_ascending "is_ascending" (defScope (top 13)) f cdv A outer s H E) TT := M.tab _ rfl rfl
  exact (sv_one (sv_ret (b_all rfl M.n_all (av_cons (ev_lc [("k", 1)] rfl S.nd (iv_r1 M.n_range (av_cons (ev_bin o_sub (b_len M.n_len (av_cons (ev_var 0) av_nil)) ev_int) av_nil)) (blkOk_by (by kernel_rfl)) (fun _ _ _ _ _ => (gw_name 1 S.nd)) (fun _ _ _ _ _ => tvs_nil) (fun _ _ _ _ _ => (ev_cmp o_lt (ev_ix hT (roomU hr) (ev_var 0) (ev_var 1)) (ev_ix hT (roomU hr) (ev_var 0) (ev_bin o_add (ev_var 1) ev_int))))) av_nil))))
/-! is_names -/
abbrev N_is_names : List Str := ["thing", "letter"]
abbrev P_is_names : List Str := ["thing"]
theorem S_is_names : FnScope N_is_names P_is_names (defScope (top 14)) := ⟨rfl, rfl, rfl, by decide +kernel, rfl, by decide +kernel, by decide +kernel⟩
def r_is_names : ES :=
  (sSeq (sIf (tOr (tNot (tTru (eB bIsi (aCons (eVar 0) (aCons (eK (.ty "str")) aNil))))) (tNot (tOf (eChain dLe dLe (eK (.int 1)) (eB bLen (aCons (eVar 0) aNil)) (eK (.int 3))))))
   (sRet (eK (.bl false)))
   sNil)
  (sRet (eAnd (eB bAll (aCons (eLc (iSeq (eVar 0)) (gN 1) tYesD (eBin (dIn TT) (eVar 1) (eK c_LETTERS)) [1]) aNil)) (eCall g_is_ascending [] (aCons (eVar 0) aNil)))))
theorem w_is_names {P : Program} {w : World} {K : PySem.W.Frag} {mg : Str → Option Value} {base : Heap} {k : Nat} {f : Addr} {cdv : Value} {A : Around} {outer : List Env} {s : Shared} {H : Hp} {E : XK} (M : Md P K w mg) (F_is_ascending : FnG P w K mg base (k + 1) 1 g_is_ascending [] "is_ascending")
    (hr : Room (k + 1) (A.deeper (envOfC "is_names" (defScope (top 14)) s.heap.objs.size f cdv))) :
    PSs (cxOf (L2.CX P w) P w K mg base N_is_names "is_names" (defScope (top 14)) f cdv A outer s H E) (defBody (top 14)) (RS K (wE E) r_is_names) := by
  have S := S_is_names
  have hT : TabOk (cxOf (L2.CX P w) P w K mg base N_is_names "is_names" (defScope (top 14)) f cdv A outer s H E) TT := M.tab _ rfl rfl
  exact (sv_seq (sv_if (PW.pt (tv_or (tv_not (tv_tru (b_isi M.n_isinstance (av_cons (ev_var 0) (av_cons (ev_ty M.n_str (by decide +kernel)) av_nil))))) (tv_or1 (tv_not (ev_tchain o_le o_le ev_int (b_len M.n_len (av_cons (ev_var 0) av_nil)) ev_int)))))
   (sv_one (sv_ret ev_bl))
   sv_nil)
  (sv_one (sv_ret (ev_and (b_all rfl M.n_all (av_cons (ev_lc [("letter", 1)] rfl S.nd (pi_seq (ev_var 0)) (blkOk_by (by kernel_rfl)) (fun _ _ _ _ _ => (gw_name 1 S.nd)) (fun _ _ _ _ _ => tvs_nil) (fun _ _ _ _ _ => (ev_cmp (o_in hT (roomU hr)) (ev_var 1) (ev_glob M.g_LETTERS)))) av_nil)) (ev_one (ev_call F_is_ascending hr (takes_of rfl rfl rfl rfl) (av_cons (ev_var 0) av_nil)))))))
/-! check_names -/
abbrev N_check_names : List Str := ["thing"]
abbrev P_check_names : List Str := ["thing"]
theorem S_check_names : FnScope N_check_names P_check_names (defScope (top 15)) := ⟨rfl, rfl, rfl, by decide +kernel, rfl, by decide +kernel, by decide +kernel⟩
def r_check_names : ES :=
  (sIf (tNot (tTru (eCall g_is_names [] (aCons (eVar 0) aNil))))
   (sRaise "BadNames" "thing" okAny (eVar 0))
   sNil)
theorem w_check_names {P : Program} {w : World} {K : PySem.W.Frag} {mg : Str → Option Value} {base : Heap} {k : Nat} {f : Addr} {cdv : Value} {A : Around} {outer : List Env} {s : Shared} {H : Hp} {E : XK} (M : Md P K w mg) (F_is_names : FnG P w K mg base (k + 1) 1 g_is_names [] "is_names")
    (hr : Room (k + 1) (A.deeper (envOfC "check_names" (defScope (top 15)) s.heap.objs.size f cdv))) :
    PSs (cxOf (L2.CX P w) P w K mg base N_check_names "check_names" (defScope (top 15)) f cdv A outer s H E) (defBody (top 15)) (RS K (wE E) r_check_names) := by
  have S := S_check_names
  exact (sv_one (sv_if (tv_not (tv_tru (ev_call F_is_names hr (takes_of rfl rfl rfl rfl) (av_cons (ev_var 0) av_nil))))
   (sv_one (sv_raise M.e_BadNames rfl hr (takes_of rfl rfl rfl rfl) (ev_var 0)))
   sv_nil))
/-! is_term -/
abbrev N_is_term : List Str := ["letters", "thing"]
abbrev P_is_term : List Str := ["letters", "thing"]
theorem S_is_term : FnScope N_is_term P_is_term (defScope (top 16)) := ⟨rfl, rfl, rfl, by decide +kernel, rfl, by decide +kernel, by decide +kernel⟩
def r_is_term : ES :=
  (sSeq (sIf (tNot (tTru (eB bIsi (aCons (eVar 1) (aCons (eK (.ty "str")) aNil)))))
   (sRet (eK (.bl false)))
   sNil)
  (sRet (eOr (eBin dEq (eVar 1) (eK c_NIL)) (eAnd (eBin dEq (eB bLen (aCons (eVar 1) aNil)) (eK (.int 1))) (eBin (dIn TT) (eVar 1) (eVar 0))))))
theorem w_is_term {P : Program} {w : World} {K : PySem.W.Frag} {mg : Str → Option Value} {base : Heap} {k : Nat} {f : Addr} {cdv : Value} {A : Around} {outer : List Env} {s : Shared} {H : Hp} {E : XK} (M : Md P K w mg) 
    (hr : Room (k + 1) (A.deeper (envOfC "is_term" (defScope (top 16)) s.heap.objs.size f cdv))) :
    PSs (cxOf (L2.CX P w) P w K mg base N_is_term "is_term" (defScope (top 16)) f cdv A outer s H E) (defBody (top 16)) (RS K (wE E) r_is_term) := by
  have S := S_is_term
  have hT : TabOk (cxOf (L2.CX P w) P w K mg base N_is_term "is_term" (defScope (top 16)) f cdv A outer s H E) TT := M.tab _ rfl rfl
  exact (sv_seq (sv_if (tv_not (tv_tru (b_isi M.n_isinstance (av_cons (ev_var 1) (av_cons (ev_ty M.n_str (by decide +kernel)) av_nil)))))
   (sv_one (sv_ret ev_bl))
   sv_nil)
  (sv_one (sv_ret (ev_or (ev_cmp (o_eq (roomU hr)) (ev_var 1) (ev_glob M.g_NIL)) (ev_one (ev_and (ev_cmp (o_eq (roomU hr)) (b_len M.n_len (av_cons (ev_var 1) av_nil)) ev_int) (ev_one (ev_cmp (o_in hT (roomU hr)) (ev_var 1) (ev_var 0)))))))))
/-! is_node -/
abbrev N_is_node : List Str := ["letters", "thing", "number", "form", "sign", "part"]
abbrev P_is_node : List Str := ["letters", "thing", "number"]
theorem S_is_node : FnScope N_is_node P_is_node (defScope (top 20)) := ⟨rfl, rfl, rfl, by decide +kernel, rfl, by decide +kernel, by decide +kernel⟩
def r_is_node : ES :=
  (sSeq (sIf (tOr (tNot (tTru (eCall g_is_listed [] (aCons (eVar 1) aNil)))) (tOr (tOf (eBin dEq (eB bLen (aCons (eVar 1) aNil)) (eK (.int 0)))) (tOr (tNot (tTru (eB bIsi (aCons (eBin (dIx TT) (eVar 1) (eK (.int 0))) (aCons (eK (.ty "str")) aNil))))) (tOf (eBin (dNotIn TT) (eBin (dIx TT) (eVar 1) (eK (.int 0))) (eK c_FORMS))))))
   (sRet (eK (.bl false)))
   sNil)
  (sSeq (sAsg (gN 3) (eBin (dIx TT) (eK c_FORMS) (eBin (dIx TT) (eVar 1) (eK (.int 0)))))
  (sSeq (sIf (tOf (eBin dNe (eB bLen (aCons (eVar 1) aNil)) (eBin dAdd (eK (.int 1)) (eB bLen (aCons (eVar 3) aNil)))))
   (sRet (eK (.bl false)))
   sNil)
  (sSeq (sFor (iZip2 (aCons (eVar 3) (aCons (eCut (eVar 1) (oSome (eK (.int 1))) oNone) aNil))) (gT 2 (gsCons (gN 4) (gsCons (gN 5) gsNil)))
   (sSeq (sIf (tAnd (tOf (eBin dEq (eVar 4) (eK (.str "t")))) (tNot (tTru (eCall g_is_term [] (aCons (eVar 0) (aCons (eVar 5) aNil))))))
    (sRet (eK (.bl false)))
    sNil)
   (sIf (tAnd (tOf (eBin dEq (eVar 4) (eK (.str "n")))) (tNot (tTru (eCall g_is_integer [] (aCons (eVar 5) (aCons (eK (.int 0)) (aCons (eBin dSub (eVar 2) (eK (.int 1))) aNil)))))))
    (sRet (eK (.bl false)))
    sNil)))
  (sRet (eK (.bl true)))))))
theorem w_is_node {P : Program} {w : World} {K : PySem.W.Frag} {mg : Str → Option Value} {base : Heap} {k : Nat} {f : Addr} {cdv : Value} {A : Around} {outer : List Env} {s : Shared} {H : Hp} {E : XK} (M : Md P K w mg) (F_is_integer : FnG P w K mg base (k + 1) 3 g_is_integer [] "is_integer") (F_is_listed : FnG P w K mg base (k + 1) 1 g_is_listed [] "is_listed") (F_is_term : FnG P w K mg base (k + 1) 2 g_is_term [] "is_term")
    (hr : Room (k + 1) (A.deeper (envOfC "is_node" (defScope (top 20)) s.heap.objs.size f cdv))) :
    PSs (cxOf (L2.CX P w) P w K mg base N_is_node "is_node" (defScope (top 20)) f cdv A outer s H E) (defBody (top 20)) (RS K (wE E) r_is_node) := by
  have S := S_is_node
  have hT : TabOk (cxOf (L2.CX P w) P w K mg base N_is_node "is_node" (defScope (top 20)) f cdv A outer s H E) TT := M.tab _ rfl rfl
  exact (sv_seq (sv_if (PW.pt (tv_or (tv_not (tv_tru (ev_call F_is_listed hr (takes_of rfl rfl rfl rfl) (av_cons (ev_var 1) av_nil)))) (tv_or (ev_tcmp (o_eq (roomU hr)) (b_len M.n_len (av_cons (ev_var 1) av_nil)) ev_int) (tv_or (tv_not (tv_tru (b_isi M.n_isinstance (av_cons (ev_ix hT (roomU hr) (ev_var 1) ev_int) (av_cons (ev_ty M.n_str (by decide +kernel)) av_nil))))) (tv_or1 (ev_tcmp (o_notin hT (roomU hr)) (ev_ix hT (roomU hr) (ev_var 1) ev_int) (ev_glob M.g_FORMS)))))))
   (sv_one (sv_ret ev_bl))
   sv_nil)
  (sv_seq (sv_set 3 S.nd (ev_ix hT (roomU hr) (ev_glob M.g_FORMS) (ev_ix hT (roomU hr) (ev_var 1) ev_int)))
  (sv_seq (sv_if (ev_tcmp (o_ne (roomU hr)) (b_len M.n_len (av_cons (ev_var 1) av_nil)) (ev_bin o_add ev_int (b_len M.n_len (av_cons (ev_var 3) av_nil))))
   (sv_one (sv_ret ev_bl))
   sv_nil)
  (sv_seq (sv_for (passes_of rfl) rfl (iv_zip M.n_zip (av_cons (ev_var 3) (av_cons (ev_cut (ev_var 1) (ov_some ev_int) ov_none) av_nil))) (gv_tup rfl (gv_cons (gv_name 4 S.nd) (gv_cons (gv_name 5 S.nd) gv_nil)))
   (sv_seq (sv_if (PW.pt (tv_and (ev_tcmp (o_eq (roomU hr)) (ev_var 4) ev_str) (tv_and1 (tv_not (tv_tru (ev_call F_is_term hr (takes_of rfl rfl rfl rfl) (av_cons (ev_var 0) (av_cons (ev_var 5) av_nil))))))))
    (sv_one (sv_ret ev_bl))
    sv_nil)
   (sv_one (sv_if (PW.pt (tv_and (ev_tcmp (o_eq (roomU hr)) (ev_var 4) ev_str) (tv_and1 (tv_not (tv_tru (ev_call F_is_integer hr (takes_of rfl rfl rfl rfl) (av_cons (ev_var 5) (av_cons ev_int (av_cons (ev_bin o_sub (ev_var 2) ev_int) av_nil)))))))))
    (sv_one (sv_ret ev_bl))
    sv_nil))))
  (sv_one (sv_ret ev_bl))))))
/-! sheet_over -/
abbrev N_sheet_over : List Str := ["letters", "thing", "number", "node"]
abbrev P_sheet_over : List Str := ["letters", "thing"]
theorem S_sheet_over : FnScope N_sheet_over P_sheet_over (defScope (top 21)) := ⟨rfl, rfl, rfl, by decide +kernel, rfl, by decide +kernel, by decide +kernel⟩
def r_sheet_over : ES :=
  (sSeq (sIf (tOr (tNot (tTru (eCall g_is_listed [] (aCons (eVar 1) aNil)))) (tNot (tOf (eChain dLe dLe (eK (.int 1)) (eB bLen (aCons (eVar 1) aNil)) (eK c_MOST_NODES)))))
   (sRaise "BadSheet" "number" okInt (eUn dNeg (eK (.int 1))))
   sNil)
  (sSeq (sFor (iEn (aCons (eVar 1) aNil)) (gT 2 (gsCons (gN 2) (gsCons (gN 3) gsNil)))
   (sIf (tNot (tTru (eCall g_is_node [] (aCons (eVar 0) (aCons (eVar 3) (aCons (eVar 2) aNil))))))
    (sRaise "BadSheet" "number" okInt (eVar 2))
    sNil))
  (sRet (eCall g_deep [(.int 30)] (aCons (eVar 1) aNil)))))
theorem w_sheet_over {P : Program} {w : World} {K : PySem.W.Frag} {mg : Str → Option Value} {base : Heap} {k : Nat} {f : Addr} {cdv : Value} {A : Around} {outer : List Env} {s : Shared} {H : Hp} {E : XK} (M : Md P K w mg) (F_deep_d : FnG P w K mg base (k + 1) 2 g_deep [(.int 30)] "deep") (F_is_listed : FnG P w K mg base (k + 1) 1 g_is_listed [] "is_listed") (F_is_node : FnG P w K mg base (k + 1) 3 g_is_node [] "is_node")
    (hr : Room (k + 1) (A.deeper (envOfC "sheet_over" (defScope (top 21)) s.heap.objs.size f cdv))) :
    PSs (cxOf (L2.CX P w) P w K mg base N_sheet_over "sheet_over" (defScope (top 21)) f cdv A outer s H E) (defBody (top 21)) (RS K (wE E) r_sheet_over) := by
  have S := S_sheet_over
  exact (sv_seq (sv_if (PW.pt (tv_or (tv_not (tv_tru (ev_call F_is_listed hr (takes_of rfl rfl rfl rfl) (av_cons (ev_var 1) av_nil)))) (tv_or1 (tv_not (ev_tchain o_le o_le ev_int (b_len M.n_len (av_cons (ev_var 1) av_nil)) (ev_glob M.g_MOST_NODES))))))
   (sv_one (sv_raise M.e_BadSheet rfl hr (takes_of rfl rfl rfl rfl) (ev_neg ev_int)))
   sv_nil)
  (sv_seq (sv_for (passes_of rfl) rfl (iv_enum M.n_enumerate (av_cons (ev_var 1) av_nil)) (gv_tup rfl (gv_cons (gv_name 2 S.nd) (gv_cons (gv_name 3 S.nd) gv_nil)))
   (sv_one (sv_if (tv_not (tv_tru (ev_call F_is_node hr (takes_of rfl rfl rfl rfl) (av_cons (ev_var 0) (av_cons (ev_var 3) (av_cons (ev_var 2) av_nil))))))
    (sv_one (sv_raise M.e_BadSheet rfl hr (takes_of rfl rfl rfl rfl) (ev_var 2)))
    sv_nil)))
  (sv_one (sv_ret (ev_call F_deep_d hr (takes_of rfl rfl rfl rfl) (av_cons (ev_var 1) av_nil))))))
/-! checked_sheet -/
abbrev N_checked_sheet : List Str := ["names", "thing"]
abbrev P_checked_sheet : List Str := ["names", "thing"]
theorem S_checked_sheet : FnScope N_checked_sheet P_checked_sheet (defScope (top 22)) := ⟨rfl, rfl, rfl, by decide +kernel, rfl, by decide +kernel, by decide +kernel⟩
def r_checked_sheet : ES :=
  (sSeq (sExpr (eCall g_check_names [] (aCons (eVar 0) aNil)))
  (sRet (eCall g_sheet_over [] (aCons (eVar 0) (aCons (eVar 1) aNil)))))
theorem w_checked_sheet {P : Program} {w : World} {K : PySem.W.Frag} {mg : Str → Option Value} {base : Heap} {k : Nat} {f : Addr} {cdv : Value} {A : Around} {outer : List Env} {s : Shared} {H : Hp} {E : XK} (M : Md P K w mg) (F_check_names : FnG P w K mg base (k + 1) 1 g_check_names [] "check_names") (F_sheet_over : FnG P w K mg base (k + 1) 2 g_sheet_over [] "sheet_over")
    (hr : Room (k + 1) (A.deeper (envOfC "checked_sheet" (defScope (top 22)) s.heap.objs.size f cdv))) :
    PSs (cxOf (L2.CX P w) P w K mg base N_checked_sheet "checked_sheet" (defScope (top 22)) f cdv A outer s H E) (defBody (top 22)) (RS K (wE E) r_checked_sheet) := by
  have S := S_checked_sheet
  exact (sv_seq (sv_expr (ev_call F_check_names hr (takes_of rfl rfl rfl rfl) (av_cons (ev_var 0) av_nil)))
  (sv_one (sv_ret (ev_call F_sheet_over hr (takes_of rfl rfl rfl rfl) (av_cons (ev_var 0) (av_cons (ev_var 1) av_nil))))))
/-! referred -/
abbrev N_referred : List Str := ["node", "sign", "part"]
abbrev P_referred : List Str := ["node"]
theorem S_referred : FnScope N_referred P_referred (defScope (top 23)) := ⟨rfl, rfl, rfl, by decide +kernel, rfl, by decide +kernel, by decide +kernel⟩
def r_referred : ES :=
  (sRet (eLc (iZip2 (aCons (eBin (dIx TT) (eK c_FORMS) (eBin (dIx TT) (eVar 0) (eK (.int 0)))) (aCons (eCut (eVar 0) (oSome (eK (.int 1))) oNone) aNil))) (gT 2 (gsCons (gN 1) (gsCons (gN 2) gsNil))) (tOf (eBin dEq (eVar 1) (eK (.str "n")))) (eVar 2) [1, 2]))
theorem w_referred {P : Program} {w : World} {K : PySem.W.Frag} {mg : Str → Option Value} {base : Heap} {k : Nat} {f : Addr} {cdv : Value} {A : Around} {outer : List Env} {s : Shared} {H : Hp} {E : XK} (M : Md P K w mg) 
    (hr : Room (k + 1) (A.deeper (envOfC "referred" (defScope (top 23)) s.heap.objs.size f cdv))) :
    PSs (cxOf (L2.CX P w) P w K mg base N_referred "referred" (defScope (top 23)) f cdv A outer s H E) (defBody (top 23)) (RS K (wE E) r_referred) := by
  have S := S_referred
  have hT : TabOk (cxOf (L2.CX P w) P w K mg base N_referred "referred" (defScope (top 23)) f cdv A outer s H E) TT := M.tab _ rfl rfl
  exact (sv_one (sv_ret (ev_lc [("sign", 1), ("part", 2)] rfl S.nd (iv_zip M.n_zip (av_cons (ev_ix hT (roomU hr) (ev_glob M.g_FORMS) (ev_ix hT (roomU hr) (ev_var 0) ev_int)) (av_cons (ev_cut (ev_var 0) (ov_some ev_int) ov_none) av_nil))) (blkOk_by (by kernel_rfl)) (fun _ _ _ _ _ => (gw_tup rfl (gw_cons (gw_name 1 S.nd) (gw_cons (gw_name 2 S.nd) gw_nil)))) (fun _ _ _ _ _ => (tvs_one (ev_tcmp (o_eq (roomU hr)) (ev_var 1) ev_str))) (fun _ _ _ _ _ => (ev_var 2)))))
/-! scanned -/
abbrev N_scanned : List Str := ["text", "at", "last", "here", "end"]
abbrev P_scanned : List Str := ["text", "at", "last"]
theorem S_scanned : FnScope N_scanned P_scanned (defScope (top 26)) := ⟨rfl, rfl, rfl, by decide +kernel, rfl, by decide +kernel, by decide +kernel⟩
def r_scanned : ES :=
  (sSeq (sAsg (gN 3) (eVar 1))
  (sSeq (sIf (tAnd (tOf (eBin (dNotIn TT) (eVar 2) (eTup (aCons (eK (.str "")) (aCons (eK (.str "(")) aNil))))) (tOf (eBin dLt (eVar 3) (eB bLen (aCons (eVar 0) aNil)))))
   (sIf (tOf (eBin dEq (eBin (dIx TT) (eVar 0) (eVar 3)) (eK (.str " "))))
    (sSeq (sAug 3 dIAdd (eK (.int 1)))
    (sIf (tOr (tOf (eBin dEq (eVar 3) (eB bLen (aCons (eVar 0) aNil)))) (tOf (eBin dEq (eBin (dIx TT) (eVar 0) (eVar 3)) (eK (.str ")")))))
     (sRaise "BadText" "at" okInt (eVar 3))
     sNil))
    (sIf (tOf (eBin dNe (eBin (dIx TT) (eVar 0) (eVar 3)) (eK (.str ")"))))
     (sRaise "BadText" "at" okInt (eVar 3))
     sNil))
   sNil)
  (sSeq (sIf (tOf (eBin dEq (eVar 3) (eB bLen (aCons (eVar 0) aNil))))
   (sRet (eTup (aCons (eK (.str "")) (aCons (eVar 3) (aCons (eVar 3) aNil)))))
   sNil)
  (sSeq (sIf (tOf (eBin (dIn TT) (eBin (dIx TT) (eVar 0) (eVar 3)) (eK (.str "()"))))
   (sRet (eTup (aCons (eBin (dIx TT) (eVar 0) (eVar 3)) (aCons (eVar 3) (aCons (eBin dAdd (eVar 3) (eK (.int 1))) aNil)))))
   sNil)
  (sSeq (sAsg (gN 4) (eVar 3))
  (sSeq (sWhile (tAnd (tOf (eBin dLt (eVar 4) (eB bLen (aCons (eVar 0) aNil)))) (tOf (eChain dLe dLe (eK (.str "a")) (eBin (dIx TT) (eVar 0) (eVar 4)) (eK (.str "z")))))
   (sAug 4 dIAdd (eK (.int 1))))
  (sSeq (sIf (tOf (eBin dEq (eVar 4) (eVar 3)))
   (sRaise "BadText" "at" okInt (eVar 3))
   sNil)
  (sRet (eTup (aCons (eCut (eVar 0) (oSome (eVar 3)) (oSome (eVar 4))) (aCons (eVar 3) (aCons (eVar 4) aNil))))))))))))
theorem w_scanned {P : Program} {w : World} {K : PySem.W.Frag} {mg : Str → Option Value} {base : Heap} {k : Nat} {f : Addr} {cdv : Value} {A : Around} {outer : List Env} {s : Shared} {H : Hp} {E : XK} (M : Md P K w mg) 
    (hr : Room (k + 1) (A.deeper (envOfC "scanned" (defScope (top 26)) s.heap.objs.size f cdv))) :
    PSs (cxOf (L2.CX P w) P w K mg base N_scanned "scanned" (defScope (top 26)) f cdv A outer s H E) (defBody (top 26)) (RS K (wE E) r_scanned) := by
  have S := S_scanned
  have hT : TabOk (cxOf (L2.CX P w) P w K mg base N_scanned "scanned" (defScope (top 26)) f cdv A outer s H E) TT := M.tab _ rfl rfl
  exact (sv_seq (sv_set 3 S.nd (ev_var 1))
  (sv_seq (sv_if (PW.pt (tv_and (ev_tcmp (o_notin hT (roomU hr)) (ev_var 2) (ev_tup (av_cons ev_str (av_cons ev_str av_nil)))) (tv_and1 (ev_tcmp o_lt (ev_var 3) (b_len M.n_len (av_cons (ev_var 0) av_nil))))))
   (sv_one (sv_if (ev_tcmp (o_eq (roomU hr)) (ev_ix hT (roomU hr) (ev_var 0) (ev_var 3)) ev_str)
    (sv_seq (sv_aug 3 o_iadd S.nd ev_int)
    (sv_one (sv_if (PW.pt (tv_or (ev_tcmp (o_eq (roomU hr)) (ev_var 3) (b_len M.n_len (av_cons (ev_var 0) av_nil))) (tv_or1 (ev_tcmp (o_eq (roomU hr)) (ev_ix hT (roomU hr) (ev_var 0) (ev_var 3)) ev_str))))
     (sv_one (sv_raise M.e_BadText rfl hr (takes_of rfl rfl rfl rfl) (ev_var 3)))
     sv_nil)))
    (sv_one (sv_if (ev_tcmp (o_ne (roomU hr)) (ev_ix hT (roomU hr) (ev_var 0) (ev_var 3)) ev_str)
     (sv_one (sv_raise M.e_BadText rfl hr (takes_of rfl rfl rfl rfl) (ev_var 3)))
     sv_nil))))
   sv_nil)
  (sv_seq (sv_if (ev_tcmp (o_eq (roomU hr)) (ev_var 3) (b_len M.n_len (av_cons (ev_var 0) av_nil)))
   (sv_one (sv_ret (ev_tup (av_cons ev_str (av_cons (ev_var 3) (av_cons (ev_var 3) av_nil))))))
   sv_nil)
  (sv_seq (sv_if (ev_tcmp (o_in hT (roomU hr)) (ev_ix hT (roomU hr) (ev_var 0) (ev_var 3)) ev_str)
   (sv_one (sv_ret (ev_tup (av_cons (ev_ix hT (roomU hr) (ev_var 0) (ev_var 3)) (av_cons (ev_var 3) (av_cons (ev_bin o_add (ev_var 3) ev_int) av_nil))))))
   sv_nil)
  (sv_seq (sv_set 4 S.nd (ev_var 3))
  (sv_seq (sv_while (passes_of rfl) (PW.pt (tv_and (ev_tcmp o_lt (ev_var 4) (b_len M.n_len (av_cons (ev_var 0) av_nil))) (tv_and1 (ev_tchain o_le o_le ev_str (ev_ix hT (roomU hr) (ev_var 0) (ev_var 4)) ev_str))))
   (sv_one (sv_aug 4 o_iadd S.nd ev_int)))
  (sv_seq (sv_if (ev_tcmp (o_eq (roomU hr)) (ev_var 4) (ev_var 3))
   (sv_one (sv_raise M.e_BadText rfl hr (takes_of rfl rfl rfl rfl) (ev_var 3)))
   sv_nil)
  (sv_one (sv_ret (ev_tup (av_cons (ev_cut (ev_var 0) (ov_some (ev_var 3)) (ov_some (ev_var 4))) (av_cons (ev_var 3) (av_cons (ev_var 4) av_nil)))))))))))))
/-! Lister.__init__ -/
abbrev N_Lister___init__ : List Str := ["self"]
abbrev P_Lister___init__ : List Str := ["self"]
theorem S_Lister___init__ : FnScope N_Lister___init__ P_Lister___init__ (defScope (inClass (top 28) 0)) := ⟨rfl, rfl, rfl, by decide +kernel, rfl, by decide +kernel, by decide +kernel⟩
def r_Lister___init__ : ES :=
  (sSeq (sSetF FF "nodes" (eVar 0) (eLst aNil))
  (sSetF FF "known" (eVar 0) eNewT))
theorem w_Lister___init__ {P : Program} {w : World} {K : PySem.W.Frag} {mg : Str → Option Value} {base : Heap} {k : Nat} {f : Addr} {cdv : Value} {A : Around} {outer : List Env} {s : Shared} {H : Hp} {E : XK} (M : Md P K w mg) 
    (hr : Room (k + 1) (A.deeper (envOfC "Lister.__init__" (defScope (inClass (top 28) 0)) s.heap.objs.size f cdv))) :
    PSs (cxOf (L2.CX P w) P w K mg base N_Lister___init__ "Lister.__init__" (defScope (inClass (top 28) 0)) f cdv A outer s H E) (defBody (inClass (top 28) 0)) (RS K (wE E) r_Lister___init__) := by
  have S := S_Lister___init__
  have hF : FldOk (cxOf (L2.CX P w) P w K mg base N_Lister___init__ "Lister.__init__" (defScope (inClass (top 28) 0)) f cdv A outer s H E) FF := M.fld _ rfl
  exact (sv_seq (sv_setf hF (ev_var 0) (ev_lst av_nil))
  (sv_one (sv_setf hF (ev_var 0) ev_newT)))
/-! Lister.put -/
abbrev N_Lister_put : List Str := ["self", "node"]
abbrev P_Lister_put : List Str := ["self", "node"]
theorem S_Lister_put : FnScope N_Lister_put P_Lister_put (defScope (inClass (top 28) 1)) := ⟨rfl, rfl, rfl, by decide +kernel, rfl, by decide +kernel, by decide +kernel⟩
def r_Lister_put : ES :=
  (sSeq (sIf (tOf (eBin (dNotIn TT) (eVar 1) (eFld FF "known" (eVar 0))))
   (sSeq (sSetIx (eFld FF "known" (eVar 0)) (eVar 1) (eB bLen (aCons (eFld FF "nodes" (eVar 0)) aNil)))
   (sExpr (eM isLst mAppend (eFld FF "nodes" (eVar 0)) (aCons (eVar 1) aNil))))
   sNil)
  (sRet (eBin (dIx TT) (eFld FF "known" (eVar 0)) (eVar 1))))
theorem w_Lister_put {P : Program} {w : World} {K : PySem.W.Frag} {mg : Str → Option Value} {base : Heap} {k : Nat} {f : Addr} {cdv : Value} {A : Around} {outer : List Env} {s : Shared} {H : Hp} {E : XK} (M : Md P K w mg) 
    (hr : Room (k + 1) (A.deeper (envOfC "Lister.put" (defScope (inClass (top 28) 1)) s.heap.objs.size f cdv))) :
    PSs (cxOf (L2.CX P w) P w K mg base N_Lister_put "Lister.put" (defScope (inClass (top 28) 1)) f cdv A outer s H E) (defBody (inClass (top 28) 1)) (RS K (wE E) r_Lister_put) := by
  have S := S_Lister_put
  have hT : TabOk (cxOf (L2.CX P w) P w K mg base N_Lister_put "Lister.put" (defScope (inClass (top 28) 1)) f cdv A outer s H E) TT := M.tab _ rfl rfl
  have hF : FldOk (cxOf (L2.CX P w) P w K mg base N_Lister_put "Lister.put" (defScope (inClass (top 28) 1)) f cdv A outer s H E) FF := M.fld _ rfl
  exact (sv_seq (sv_if (ev_tcmp (o_notin hT (roomU hr)) (ev_var 1) (ev_fld hF (ev_var 0)))
   (sv_seq (sv_setix (roomU hr) (ev_fld hF (ev_var 0)) (ev_var 1) (b_len M.n_len (av_cons (ev_fld hF (ev_var 0)) av_nil)))
   (sv_one (sv_expr (b_append (ev_fld hF (ev_var 0)) (av_cons (ev_var 1) av_nil)))))
   sv_nil)
  (sv_one (sv_ret (ev_ix hT (roomU hr) (ev_fld hF (ev_var 0)) (ev_var 1)))))
/-! Level.__init__ -/
abbrev N_Level___init__ : List Str := ["self"]
abbrev P_Level___init__ : List Str := ["self"]
theorem S_Level___init__ : FnScope N_Level___init__ P_Level___init__ (defScope (inClass (top 34) 0)) := ⟨rfl, rfl, rfl, by decide +kernel, rfl, by decide +kernel, by decide +kernel⟩
def r_Level___init__ : ES :=
  (sSeq (sSetF FF "operands" (eVar 0) (eLst aNil))
  (sSeq (sSetF FF "joins" (eVar 0) (eLst aNil))
  (sSetF FF "nots" (eVar 0) (eK (.int 0)))))
theorem w_Level___init__ {P : Program} {w : World} {K : PySem.W.Frag} {mg : Str → Option Value} {base : Heap} {k : Nat} {f : Addr} {cdv : Value} {A : Around} {outer : List Env} {s : Shared} {H : Hp} {E : XK} (M : Md P K w mg) 
    (hr : Room (k + 1) (A.deeper (envOfC "Level.__init__" (defScope (inClass (top 34) 0)) s.heap.objs.size f cdv))) :
    PSs (cxOf (L2.CX P w) P w K mg base N_Level___init__ "Level.__init__" (defScope (inClass (top 34) 0)) f cdv A outer s H E) (defBody (inClass (top 34) 0)) (RS K (wE E) r_Level___init__) := by
  have S := S_Level___init__
  have hF : FldOk (cxOf (L2.CX P w) P w K mg base N_Level___init__ "Level.__init__" (defScope (inClass (top 34) 0)) f cdv A outer s H E) FF := M.fld _ rfl
  exact (sv_seq (sv_setf hF (ev_var 0) (ev_lst av_nil))
  (sv_seq (sv_setf hF (ev_var 0) (ev_lst av_nil))
  (sv_one (sv_setf hF (ev_var 0) ev_int))))
/-! SayingReader.finish -/
abbrev N_SayingReader_finish : List Str := ["self", "number", "level"]
abbrev P_SayingReader_finish : List Str := ["self", "number"]
theorem S_SayingReader_finish : FnScope N_SayingReader_finish P_SayingReader_finish (defScope (inClass (top 35) 3)) := ⟨rfl, rfl, rfl, by decide +kernel, rfl, by decide +kernel, by decide +kernel⟩
def r_SayingReader_finish : ES :=
  (sSeq (sAsg (gN 2) (eBin (dIx TT) (eFld FF "levels" (eVar 0)) (eUn dNeg (eK (.int 1)))))
  (sSeq (sWhile (tOf (eBin dGt (eFld FF "nots" (eVar 2)) (eK (.int 0))))
   (sSeq (sAsg (gN 1) (eMeth "Lister" "put" g_Lister_put [] (eFld FF "lister" (eVar 0)) (aCons (eTup (aCons (eK (.str "not")) (aCons (eVar 1) aNil))) aNil)))
   (sSeq (sAugF FF "nots" dSub (eVar 2) (eK (.int 1)))
   (sAugF FF "opened" dSub (eVar 0) (eK (.int 1))))))
  (sSeq (sExpr (eM isLst mAppend (eFld FF "operands" (eVar 2)) (aCons (eVar 1) aNil)))
  (sSetF FF "awaited" (eVar 0) (eK (.str "join"))))))
theorem w_SayingReader_finish {P : Program} {w : World} {K : PySem.W.Frag} {mg : Str → Option Value} {base : Heap} {k : Nat} {f : Addr} {cdv : Value} {A : Around} {outer : List Env} {s : Shared} {H : Hp} {E : XK} (M : Md P K w mg) (F_Lister_put : FnM P w K mg base (k + 1) 2 g_Lister_put [] "Lister" "put")
    (hr : Room (k + 1) (A.deeper (envOfC "SayingReader.finish" (defScope (inClass (top 35) 3)) s.heap.objs.size f cdv))) :
    PSs (cxOf (L2.CX P w) P w K mg base N_SayingReader_finish "SayingReader.finish" (defScope (inClass (top 35) 3)) f cdv A outer s H E) (defBody (inClass (top 35) 3)) (RS K (wE E) r_SayingReader_finish) := by
  have S := S_SayingReader_finish
  have hT : TabOk (cxOf (L2.CX P w) P w K mg base N_SayingReader_finish "SayingReader.finish" (defScope (inClass (top 35) 3)) f cdv A outer s H E) TT := M.tab _ rfl rfl
  have hF : FldOk (cxOf (L2.CX P w) P w K mg base N_SayingReader_finish "SayingReader.finish" (defScope (inClass (top 35) 3)) f cdv A outer s H E) FF := M.fld _ rfl
  exact (sv_seq (sv_set 2 S.nd (ev_ix hT (roomU hr) (ev_fld hF (ev_var 0)) (ev_neg ev_int)))
  (sv_seq (sv_while (passes_of rfl) (ev_tcmp o_gt (ev_fld hF (ev_var 2)) ev_int)
   (sv_seq (sv_set 1 S.nd (ev_meth (pl := _) F_Lister_put hr (takes_of rfl rfl rfl rfl) (ev_fld hF (ev_var 0)) (av_cons (ev_tup (av_cons ev_str (av_cons (ev_var 1) av_nil))) av_nil)))
   (sv_seq (sv_augf hF o_isub (ev_var 2) ev_int)
   (sv_one (sv_augf hF o_isub (ev_var 0) ev_int)))))
  (sv_seq (sv_expr (b_append (ev_fld hF (ev_var 2)) (av_cons (ev_var 1) av_nil)))
  (sv_one (sv_setf hF (ev_var 0) ev_str)))))
/-! SayingReader.may_end -/
abbrev N_SayingReader_may_end : List Str := ["self"]
abbrev P_SayingReader_may_end : List Str := ["self"]
theorem S_SayingReader_may_end : FnScope N_SayingReader_may_end P_SayingReader_may_end (defScope (inClass (top 35) 6)) := ⟨rfl, rfl, rfl, by decide +kernel, rfl, by decide +kernel, by decide +kernel⟩
def r_SayingReader_may_end : ES :=
  (sRet (eAnd (eBin dEq (eFld FF "awaited" (eVar 0)) (eK (.str "join"))) (eBin dEq (eB bLen (aCons (eFld FF "levels" (eVar 0)) aNil)) (eK (.int 1)))))
theorem w_SayingReader_may_end {P : Program} {w : World} {K : PySem.W.Frag} {mg : Str → Option Value} {base : Heap} {k : Nat} {f : Addr} {cdv : Value} {A : Around} {outer : List Env} {s : Shared} {H : Hp} {E : XK} (M : Md P K w mg) 
    (hr : Room (k + 1) (A.deeper (envOfC "SayingReader.may_end" (defScope (inClass (top 35) 6)) s.heap.objs.size f cdv))) :
    PSs (cxOf (L2.CX P w) P w K mg base N_SayingReader_may_end "SayingReader.may_end" (defScope (inClass (top 35) 6)) f cdv A outer s H E) (defBody (inClass (top 35) 6)) (RS K (wE E) r_SayingReader_may_end) := by
  have S := S_SayingReader_may_end
  have hF : FldOk (cxOf (L2.CX P w) P w K mg base N_SayingReader_may_end "SayingReader.may_end" (defScope (inClass (top 35) 6)) f cdv A outer s H E) FF := M.fld _ rfl
  exact (sv_one (sv_ret (ev_and (ev_cmp (o_eq (roomU hr)) (ev_fld hF (ev_var 0)) ev_str) (ev_one (ev_cmp (o_eq (roomU hr)) (b_len M.n_len (av_cons (ev_fld hF (ev_var 0)) av_nil)) ev_int)))))
/-! SayingReader.reduce -/
abbrev N_SayingReader_reduce : List Str := ["self", "level", "binding", "second", "first"]
abbrev P_SayingReader_reduce : List Str := ["self", "level", "binding"]
theorem S_SayingReader_reduce : FnScope N_SayingReader_reduce P_SayingReader_reduce (defScope (inClass (top 35) 4)) := ⟨rfl, rfl, rfl, by decide +kernel, rfl, by decide +kernel, by decide +kernel⟩
def r_SayingReader_reduce : ES :=
  (sWhile (tAnd (tOf (eBin dGt (eB bLen (aCons (eFld FF "joins" (eVar 1)) aNil)) (eK (.int 0)))) (tOf (eBin dGe (eBin (dIx TT) (eK c_BINDING) (eBin (dIx TT) (eFld FF "joins" (eVar 1)) (eUn dNeg (eK (.int 1))))) (eVar 2))))
   (sSeq (sAsg (gN 3) (eM isLst mPop (eFld FF "operands" (eVar 1)) aNil))
   (sSeq (sAsg (gN 4) (eM isLst mPop (eFld FF "operands" (eVar 1)) aNil))
   (sExpr (eM isLst mAppend (eFld FF "operands" (eVar 1)) (aCons (eMeth "Lister" "put" g_Lister_put [] (eFld FF "lister" (eVar 0)) (aCons (eTup (aCons (eM isLst mPop (eFld FF "joins" (eVar 1)) aNil) (aCons (eVar 4) (aCons (eVar 3) aNil)))) aNil)) aNil))))))
theorem w_SayingReader_reduce {P : Program} {w : World} {K : PySem.W.Frag} {mg : Str → Option Value} {base : Heap} {k : Nat} {f : Addr} {cdv : Value} {A : Around} {outer : List Env} {s : Shared} {H : Hp} {E : XK} (M : Md P K w mg) (F_Lister_put : FnM P w K mg base (k + 1) 2 g_Lister_put [] "Lister" "put")
    (hr : Room (k + 1) (A.deeper (envOfC "SayingReader.reduce" (defScope (inClass (top 35) 4)) s.heap.objs.size f cdv))) :
    PSs (cxOf (L2.CX P w) P w K mg base N_SayingReader_reduce "SayingReader.reduce" (defScope (inClass (top 35) 4)) f cdv A outer s H E) (defBody (inClass (top 35) 4)) (RS K (wE E) r_SayingReader_reduce) := by
  have S := S_SayingReader_reduce
  have hT : TabOk (cxOf (L2.CX P w) P w K mg base N_SayingReader_reduce "SayingReader.reduce" (defScope (inClass (top 35) 4)) f cdv A outer s H E) TT := M.tab _ rfl rfl
  have hF : FldOk (cxOf (L2.CX P w) P w K mg base N_SayingReader_reduce "SayingReader.reduce" (defScope (inClass (top 35) 4)) f cdv A outer s H E) FF := M.fld _ rfl
  exact (sv_one (sv_while (passes_of rfl) (PW.pt (tv_and (ev_tcmp o_gt (b_len M.n_len (av_cons (ev_fld hF (ev_var 1)) av_nil)) ev_int) (tv_and1 (ev_tcmp o_ge (ev_ix hT (roomU hr) (ev_glob M.g_BINDING) (ev_ix hT (roomU hr) (ev_fld hF (ev_var 1)) (ev_neg ev_int))) (ev_var 2)))))
   (sv_seq (sv_set 3 S.nd (b_pop (ev_fld hF (ev_var 1))))
   (sv_seq (sv_set 4 S.nd (b_pop (ev_fld hF (ev_var 1))))
   (sv_one (sv_expr (b_append (ev_fld hF (ev_var 1)) (av_cons (ev_meth (pl := _) F_Lister_put hr (takes_of rfl rfl rfl rfl) (ev_fld hF (ev_var 0)) (av_cons (ev_tup (av_cons (b_pop (ev_fld hF (ev_var 1))) (av_cons (ev_var 4) (av_cons (ev_var 3) av_nil)))) av_nil)) av_nil))))))))
/-! SayingReader.whole -/
abbrev N_SayingReader_whole : List Str := ["self"]
abbrev P_SayingReader_whole : List Str := ["self"]
theorem S_SayingReader_whole : FnScope N_SayingReader_whole P_SayingReader_whole (defScope (inClass (top 35) 7)) := ⟨rfl, rfl, rfl, by decide +kernel, rfl, by decide +kernel, by decide +kernel⟩
def r_SayingReader_whole : ES :=
  (sSeq (sExpr (eMeth "SayingReader" "reduce" g_SayingReader_reduce [] (eVar 0) (aCons (eBin (dIx TT) (eFld FF "levels" (eVar 0)) (eK (.int 0))) (aCons (eK (.int 0)) aNil))))
  (sRet (eB bTuple (aCons (eFld FF "nodes" (eFld FF "lister" (eVar 0))) aNil))))
theorem w_SayingReader_whole {P : Program} {w : World} {K : PySem.W.Frag} {mg : Str → Option Value} {base : Heap} {k : Nat} {f : Addr} {cdv : Value} {A : Around} {outer : List Env} {s : Shared} {H : Hp} {E : XK} (M : Md P K w mg) (F_SayingReader_reduce : FnM P w K mg base (k + 1) 3 g_SayingReader_reduce [] "SayingReader" "reduce")
    (hr : Room (k + 1) (A.deeper (envOfC "SayingReader.whole" (defScope (inClass (top 35) 7)) s.heap.objs.size f cdv))) :
    PSs (cxOf (L2.CX P w) P w K mg base N_SayingReader_whole "SayingReader.whole" (defScope (inClass (top 35) 7)) f cdv A outer s H E) (defBody (inClass (top 35) 7)) (RS K (wE E) r_SayingReader_whole) := by
  have S := S_SayingReader_whole
  have hT : TabOk (cxOf (L2.CX P w) P w K mg base N_SayingReader_whole "SayingReader.whole" (defScope (inClass (top 35) 7)) f cdv A outer s H E) TT := M.tab _ rfl rfl
  have hF : FldOk (cxOf (L2.CX P w) P w K mg base N_SayingReader_whole "SayingReader.whole" (defScope (inClass (top 35) 7)) f cdv A outer s H E) FF := M.fld _ rfl
  exact (sv_seq (sv_expr (ev_meth (pl := _) F_SayingReader_reduce hr (takes_of rfl rfl rfl rfl) (ev_var 0) (av_cons (ev_ix hT (roomU hr) (ev_fld hF (ev_var 0)) ev_int) (av_cons ev_int av_nil))))
  (sv_one (sv_ret (b_tuple M.n_tuple (av_cons (ev_fld hF (ev_fld hF (ev_var 0))) av_nil)))))
/-! SayingReader.take_operand -/
abbrev N_SayingReader_take_operand : List Str := ["self", "word"]
abbrev P_SayingReader_take_operand : List Str := ["self", "word"]
theorem S_SayingReader_take_operand : FnScope N_SayingReader_take_operand P_SayingReader_take_operand (defScope (inClass (top 35) 2)) := ⟨rfl, rfl, rfl, by decide +kernel, rfl, by decide +kernel, by decide +kernel⟩
def r_SayingReader_take_operand : ES :=
  (sSeq (sIf (tOf (eBin (dIn TT) (eVar 1) (eTup (aCons (eK (.str "(")) (aCons (eK (.str "not")) aNil)))))
   (sSeq (sIf (tOf (eBin dEq (eFld FF "opened" (eVar 0)) (eK c_MOST_OPEN)))
    (sRet (eK (.bl false)))
    sNil)
   (sSeq (sAugF FF "opened" dIAdd (eVar 0) (eK (.int 1)))
   (sSeq (sIf (tOf (eBin dEq (eVar 1) (eK (.str "("))))
    (sExpr (eM isLst mAppend (eFld FF "levels" (eVar 0)) (aCons (eMake "Level" g_Level___init__ [] aNil) aNil)))
    (sAugF FF "nots" dIAdd (eBin (dIx TT) (eFld FF "levels" (eVar 0)) (eUn dNeg (eK (.int 1)))) (eK (.int 1))))
   (sRet (eK (.bl true))))))
   sNil)
  (sSeq (sIf (tOf (eBin (dIn TT) (eVar 1) (eK c_ALONE)))
   (sSeq (sExpr (eMeth "SayingReader" "finish" g_SayingReader_finish [] (eVar 0) (aCons (eMeth "Lister" "put" g_Lister_put [] (eFld FF "lister" (eVar 0)) (aCons (eTup (aCons (eVar 1) aNil)) aNil)) aNil)))
   (sRet (eK (.bl true))))
   sNil)
  (sSeq (sIf (tOf (eBin dEq (eVar 1) (eK (.str "holds"))))
   (sSeq (sSetF FF "begun" (eVar 0) (eTup (aCons (eK (.str "holds")) aNil)))
   (sSeq (sSetF FF "awaited" (eVar 0) (eK (.str "term")))
   (sRet (eK (.bl true)))))
   sNil)
  (sSeq (sSetF FF "begun" (eVar 0) (eTup (aCons (eVar 1) aNil)))
  (sSeq (sSetF FF "awaited" (eVar 0) (eK (.str "relation")))
  (sRet (eCall g_is_term [] (aCons (eFld FF "letters" (eVar 0)) (aCons (eVar 1) aNil)))))))))
theorem w_SayingReader_take_operand {P : Program} {w : World} {K : PySem.W.Frag} {mg : Str → Option Value} {base : Heap} {k : Nat} {f : Addr} {cdv : Value} {A : Around} {outer : List Env} {s : Shared} {H : Hp} {E : XK} (M : Md P K w mg) (F_Level : FnC P w K mg base k 1 g_Level___init__ [] "Level") (F_Lister_put : FnM P w K mg base (k + 1) 2 g_Lister_put [] "Lister" "put") (F_SayingReader_finish : FnM P w K mg base (k + 1) 2 g_SayingReader_finish [] "SayingReader" "finish") (F_is_term : FnG P w K mg base (k + 1) 2 g_is_term [] "is_term")
    (hr : Room (k + 1) (A.deeper (envOfC "SayingReader.take_operand" (defScope (inClass (top 35) 2)) s.heap.objs.size f cdv))) :
    PSs (cxOf (L2.CX P w) P w K mg base N_SayingReader_take_operand "SayingReader.take_operand" (defScope (inClass (top 35) 2)) f cdv A outer s H E) (defBody (inClass (top 35) 2)) (RS K (wE E) r_SayingReader_take_operand) := by
  have S := S_SayingReader_take_operand
  have hT : TabOk (cxOf (L2.CX P w) P w K mg base N_SayingReader_take_operand "SayingReader.take_operand" (defScope (inClass (top 35) 2)) f cdv A outer s H E) TT := M.tab _ rfl rfl
  have hF : FldOk (cxOf (L2.CX P w) P w K mg base N_SayingReader_take_operand "SayingReader.take_operand" (defScope (inClass (top 35) 2)) f cdv A outer s H E) FF := M.fld _ rfl
  exact (sv_seq (sv_if (ev_tcmp (o_in hT (roomU hr)) (ev_var 1) (ev_tup (av_cons ev_str (av_cons ev_str av_nil))))
   (sv_seq (sv_if (ev_tcmp (o_eq (roomU hr)) (ev_fld hF (ev_var 0)) (ev_glob M.g_MOST_OPEN))
    (sv_one (sv_ret ev_bl))
    sv_nil)
   (sv_seq (sv_augf hF o_iadd (ev_var 0) ev_int)
   (sv_seq (sv_if (ev_tcmp (o_eq (roomU hr)) (ev_var 1) ev_str)
    (sv_one (sv_expr (b_append (ev_fld hF (ev_var 0)) (av_cons (ev_make0 F_Level hr (takes_of rfl rfl rfl rfl)) av_nil))))
    (sv_one (sv_augf hF o_iadd (ev_ix hT (roomU hr) (ev_fld hF (ev_var 0)) (ev_neg ev_int)) ev_int)))
   (sv_one (sv_ret ev_bl)))))
   sv_nil)
  (sv_seq (sv_if (ev_tcmp (o_in hT (roomU hr)) (ev_var 1) (ev_glob M.g_ALONE))
   (sv_seq (sv_expr (ev_meth (pl := _) F_SayingReader_finish hr (takes_of rfl rfl rfl rfl) (ev_var 0) (av_cons (ev_meth (pl := _) F_Lister_put hr (takes_of rfl rfl rfl rfl) (ev_fld hF (ev_var 0)) (av_cons (ev_tup (av_cons (ev_var 1) av_nil)) av_nil)) av_nil)))
   (sv_one (sv_ret ev_bl)))
   sv_nil)
  (sv_seq (sv_if (ev_tcmp (o_eq (roomU hr)) (ev_var 1) ev_str)
   (sv_seq (sv_setf hF (ev_var 0) (ev_tup (av_cons ev_str av_nil)))
   (sv_seq (sv_setf hF (ev_var 0) ev_str)
   (sv_one (sv_ret ev_bl))))
   sv_nil)
  (sv_seq (sv_setf hF (ev_var 0) (ev_tup (av_cons (ev_var 1) av_nil)))
  (sv_seq (sv_setf hF (ev_var 0) ev_str)
  (sv_one (sv_ret (ev_call F_is_term hr (takes_of rfl rfl rfl rfl) (av_cons (ev_fld hF (ev_var 0)) (av_cons (ev_var 1) av_nil))))))))))
/-! SayingReader.take_join -/
abbrev N_SayingReader_take_join : List Str := ["self", "word", "level"]
abbrev P_SayingReader_take_join : List Str := ["self", "word"]
theorem S_SayingReader_take_join : FnScope N_SayingReader_take_join P_SayingReader_take_join (defScope (inClass (top 35) 5)) := ⟨rfl, rfl, rfl, by decide +kernel, rfl, by decide +kernel, by decide +kernel⟩
def r_SayingReader_take_join : ES :=
  (sSeq (sAsg (gN 2) (eBin (dIx TT) (eFld FF "levels" (eVar 0)) (eUn dNeg (eK (.int 1)))))
  (sSeq (sIf (tOf (eBin dEq (eVar 1) (eK (.str ")"))))
   (sSeq (sIf (tOf (eBin dEq (eB bLen (aCons (eFld FF "levels" (eVar 0)) aNil)) (eK (.int 1))))
    (sRet (eK (.bl false)))
    sNil)
   (sSeq (sExpr (eMeth "SayingReader" "reduce" g_SayingReader_reduce [] (eVar 0) (aCons (eVar 2) (aCons (eK (.int 0)) aNil))))
   (sSeq (sExpr (eM isLst mPop (eFld FF "levels" (eVar 0)) aNil))
   (sSeq (sAugF FF "opened" dSub (eVar 0) (eK (.int 1)))
   (sSeq (sExpr (eMeth "SayingReader" "finish" g_SayingReader_finish [] (eVar 0) (aCons (eBin (dIx TT) (eFld FF "operands" (eVar 2)) (eK (.int 0))) aNil)))
   (sRet (eK (.bl true))))))))
   sNil)
  (sSeq (sIf (tOr (tOf (eBin (dNotIn TT) (eVar 1) (eK c_BINDING))) (tOr (tOf (eBin dEq (eVar 1) (eK (.str "not")))) (tAnd (tOf (eBin dEq (eVar 1) (eK (.str "adds")))) (tOf (eBin (dIn TT) (eK (.str "adds")) (eFld FF "joins" (eVar 2)))))))
   (sRet (eK (.bl false)))
   sNil)
  (sSeq (sExpr (eMeth "SayingReader" "reduce" g_SayingReader_reduce [] (eVar 0) (aCons (eVar 2) (aCons (eBin (dIx TT) (eK c_BINDING) (eVar 1)) aNil))))
  (sSeq (sExpr (eM isLst mAppend (eFld FF "joins" (eVar 2)) (aCons (eVar 1) aNil)))
  (sSeq (sSetF FF "awaited" (eVar 0) (eK (.str "operand")))
  (sRet (eK (.bl true)))))))))
theorem w_SayingReader_take_join {P : Program} {w : World} {K : PySem.W.Frag} {mg : Str → Option Value} {base : Heap} {k : Nat} {f : Addr} {cdv : Value} {A : Around} {outer : List Env} {s : Shared} {H : Hp} {E : XK} (M : Md P K w mg) (F_SayingReader_finish : FnM P w K mg base (k + 1) 2 g_SayingReader_finish [] "SayingReader" "finish") (F_SayingReader_reduce : FnM P w K mg base (k + 1) 3 g_SayingReader_reduce [] "SayingReader" "reduce")
    (hr : Room (k + 1) (A.deeper (envOfC "SayingReader.take_join" (defScope (inClass (top 35) 5)) s.heap.objs.size f cdv))) :
    PSs (cxOf (L2.CX P w) P w K mg base N_SayingReader_take_join "SayingReader.take_join" (defScope (inClass (top 35) 5)) f cdv A outer s H E) (defBody (inClass (top 35) 5)) (RS K (wE E) r_SayingReader_take_join) := by
  have S := S_SayingReader_take_join
  have hT : TabOk (cxOf (L2.CX P w) P w K mg base N_SayingReader_take_join "SayingReader.take_join" (defScope (inClass (top 35) 5)) f cdv A outer s H E) TT := M.tab _ rfl rfl
  have hF : FldOk (cxOf (L2.CX P w) P w K mg base N_SayingReader_take_join "SayingReader.take_join" (defScope (inClass (top 35) 5)) f cdv A outer s H E) FF := M.fld _ rfl
  exact (sv_seq (sv_set 2 S.nd (ev_ix hT (roomU hr) (ev_fld hF (ev_var 0)) (ev_neg ev_int)))
  (sv_seq (sv_if (ev_tcmp (o_eq (roomU hr)) (ev_var 1) ev_str)
   (sv_seq (sv_if (ev_tcmp (o_eq (roomU hr)) (b_len M.n_len (av_cons (ev_fld hF (ev_var 0)) av_nil)) ev_int)
    (sv_one (sv_ret ev_bl))
    sv_nil)
   (sv_seq (sv_expr (ev_meth (pl := _) F_SayingReader_reduce hr (takes_of rfl rfl rfl rfl) (ev_var 0) (av_cons (ev_var 2) (av_cons ev_int av_nil))))
   (sv_seq (sv_expr (b_pop (ev_fld hF (ev_var 0))))
   (sv_seq (sv_augf hF o_isub (ev_var 0) ev_int)
   (sv_seq (sv_expr (ev_meth (pl := _) F_SayingReader_finish hr (takes_of rfl rfl rfl rfl) (ev_var 0) (av_cons (ev_ix hT (roomU hr) (ev_fld hF (ev_var 2)) ev_int) av_nil)))
   (sv_one (sv_ret ev_bl)))))))
   sv_nil)
  (sv_seq (sv_if (PW.pt (tv_or (ev_tcmp (o_notin hT (roomU hr)) (ev_var 1) (ev_glob M.g_BINDING)) (tv_or (ev_tcmp (o_eq (roomU hr)) (ev_var 1) ev_str) (tv_or1 (PW.pt (tv_and (ev_tcmp (o_eq (roomU hr)) (ev_var 1) ev_str) (tv_and1 (ev_tcmp (o_in hT (roomU hr)) ev_str (ev_fld hF (ev_var 2))))))))))
   (sv_one (sv_ret ev_bl))
   sv_nil)
  (sv_seq (sv_expr (ev_meth (pl := _) F_SayingReader_reduce hr (takes_of rfl rfl rfl rfl) (ev_var 0) (av_cons (ev_var 2) (av_cons (ev_ix hT (roomU hr) (ev_glob M.g_BINDING) (ev_var 1)) av_nil))))
  (sv_seq (sv_expr (b_append (ev_fld hF (ev_var 2)) (av_cons (ev_var 1) av_nil)))
  (sv_seq (sv_setf hF (ev_var 0) ev_str)
  (sv_one (sv_ret ev_bl))))))))
/-! SayingReader.take_word -/
abbrev N_SayingReader_take_word : List Str := ["self", "word"]
abbrev P_SayingReader_take_word : List Str := ["self", "word"]
theorem S_SayingReader_take_word : FnScope N_SayingReader_take_word P_SayingReader_take_word (defScope (inClass (top 35) 1)) := ⟨rfl, rfl, rfl, by decide +kernel, rfl, by decide +kernel, by decide +kernel⟩
def r_SayingReader_take_word : ES :=
  (sSeq (sIf (tOf (eBin dEq (eFld FF "awaited" (eVar 0)) (eK (.str "operand"))))
   (sRet (eMeth "SayingReader" "take_operand" g_SayingReader_take_operand [] (eVar 0) (aCons (eVar 1) aNil)))
   sNil)
  (sSeq (sIf (tOf (eBin dEq (eFld FF "awaited" (eVar 0)) (eK (.str "join"))))
   (sRet (eMeth "SayingReader" "take_join" g_SayingReader_take_join [] (eVar 0) (aCons (eVar 1) aNil)))
   sNil)
  (sSeq (sIf (tOf (eBin dEq (eFld FF "awaited" (eVar 0)) (eK (.str "relation"))))
   (sSeq (sIf (tOf (eBin (dNotIn TT) (eVar 1) (eK c_RELATIONS)))
    (sRet (eK (.bl false)))
    sNil)
   (sSeq (sSetF FF "begun" (eVar 0) (eBin dAdd (eTup (aCons (eVar 1) aNil)) (eFld FF "begun" (eVar 0))))
   (sSeq (sSetF FF "awaited" (eVar 0) (eK (.str "term")))
   (sRet (eK (.bl true))))))
   sNil)
  (sSeq (sIf (tNot (tTru (eCall g_is_term [] (aCons (eFld FF "letters" (eVar 0)) (aCons (eVar 1) aNil)))))
   (sRet (eK (.bl false)))
   sNil)
  (sSeq (sExpr (eMeth "SayingReader" "finish" g_SayingReader_finish [] (eVar 0) (aCons (eMeth "Lister" "put" g_Lister_put [] (eFld FF "lister" (eVar 0)) (aCons (eBin dAdd (eFld FF "begun" (eVar 0)) (eTup (aCons (eVar 1) aNil))) aNil)) aNil)))
  (sRet (eK (.bl true))))))))
theorem w_SayingReader_take_word {P : Program} {w : World} {K : PySem.W.Frag} {mg : Str → Option Value} {base : Heap} {k : Nat} {f : Addr} {cdv : Value} {A : Around} {outer : List Env} {s : Shared} {H : Hp} {E : XK} (M : Md P K w mg) (F_Lister_put : FnM P w K mg base (k + 1) 2 g_Lister_put [] "Lister" "put") (F_SayingReader_finish : FnM P w K mg base (k + 1) 2 g_SayingReader_finish [] "SayingReader" "finish") (F_SayingReader_take_join : FnM P w K mg base (k + 1) 2 g_SayingReader_take_join [] "SayingReader" "take_join") (F_SayingReader_take_operand : FnM P w K mg base (k + 1) 2 g_SayingReader_take_operand [] "SayingReader" "take_operand") (F_is_term : FnG P w K mg base (k + 1) 2 g_is_term [] "is_term")
    (hr : Room (k + 1) (A.deeper (envOfC "SayingReader.take_word" (defScope (inClass (top 35) 1)) s.heap.objs.size f cdv))) :
    PSs (cxOf (L2.CX P w) P w K mg base N_SayingReader_take_word "SayingReader.take_word" (defScope (inClass (top 35) 1)) f cdv A outer s H E) (defBody (inClass (top 35) 1)) (RS K (wE E) r_SayingReader_take_word) := by
  have S := S_SayingReader_take_word
  have hT : TabOk (cxOf (L2.CX P w) P w K mg base N_SayingReader_take_word "SayingReader.take_word" (defScope (inClass (top 35) 1)) f cdv A outer s H E) TT := M.tab _ rfl rfl
  have hF : FldOk (cxOf (L2.CX P w) P w K mg base N_SayingReader_take_word "SayingReader.take_word" (defScope (inClass (top 35) 1)) f cdv A outer s H E) FF := M.fld _ rfl
  exact (sv_seq (sv_if (ev_tcmp (o_eq (roomU hr)) (ev_fld hF (ev_var 0)) ev_str)
   (sv_one (sv_ret (ev_meth (pl := _) F_SayingReader_take_operand hr (takes_of rfl rfl rfl rfl) (ev_var 0) (av_cons (ev_var 1) av_nil))))
   sv_nil)
  (sv_seq (sv_if (ev_tcmp (o_eq (roomU hr)) (ev_fld hF (ev_var 0)) ev_str)
   (sv_one (sv_ret (ev_meth (pl := _) F_SayingReader_take_join hr (takes_of rfl rfl rfl rfl) (ev_var 0) (av_cons (ev_var 1) av_nil))))
   sv_nil)
  (sv_seq (sv_if (ev_tcmp (o_eq (roomU hr)) (ev_fld hF (ev_var 0)) ev_str)
   (sv_seq (sv_if (ev_tcmp (o_notin hT (roomU hr)) (ev_var 1) (ev_glob M.g_RELATIONS))
    (sv_one (sv_ret ev_bl))
    sv_nil)
   (sv_seq (sv_setf hF (ev_var 0) (ev_bin o_add (ev_tup (av_cons (ev_var 1) av_nil)) (ev_fld hF (ev_var 0))))
   (sv_seq (sv_setf hF (ev_var 0) ev_str)
   (sv_one (sv_ret ev_bl)))))
   sv_nil)
  (sv_seq (sv_if (tv_not (tv_tru (ev_call F_is_term hr (takes_of rfl rfl rfl rfl) (av_cons (ev_fld hF (ev_var 0)) (av_cons (ev_var 1) av_nil)))))
   (sv_one (sv_ret ev_bl))
   sv_nil)
  (sv_seq (sv_expr (ev_meth (pl := _) F_SayingReader_finish hr (takes_of rfl rfl rfl rfl) (ev_var 0) (av_cons (ev_meth (pl := _) F_Lister_put hr (takes_of rfl rfl rfl rfl) (ev_fld hF (ev_var 0)) (av_cons (ev_bin o_add (ev_fld hF (ev_var 0)) (ev_tup (av_cons (ev_var 1) av_nil))) av_nil)) av_nil)))
  (sv_one (sv_ret ev_bl)))))))
/-! SayingReader.__init__ -/
abbrev N_SayingReader___init__ : List Str := ["self", "letters"]
abbrev P_SayingReader___init__ : List Str := ["self", "letters"]
theorem S_SayingReader___init__ : FnScope N_SayingReader___init__ P_SayingReader___init__ (defScope (inClass (top 35) 0)) := ⟨rfl, rfl, rfl, by decide +kernel, rfl, by decide +kernel, by decide +kernel⟩
def r_SayingReader___init__ : ES :=
  (sSeq (sSetF FF "letters" (eVar 0) (eVar 1))
  (sSeq (sSetF FF "lister" (eVar 0) (eMake "Lister" g_Lister___init__ [] aNil))
  (sSeq (sSetF FF "levels" (eVar 0) (eLst (aCons (eMake "Level" g_Level___init__ [] aNil) aNil)))
  (sSeq (sSetF FF "awaited" (eVar 0) (eK (.str "operand")))
  (sSeq (sSetF FF "begun" (eVar 0) (eTup aNil))
  (sSetF FF "opened" (eVar 0) (eK (.int 0))))))))
theorem w_SayingReader___init__ {P : Program} {w : World} {K : PySem.W.Frag} {mg : Str → Option Value} {base : Heap} {k : Nat} {f : Addr} {cdv : Value} {A : Around} {outer : List Env} {s : Shared} {H : Hp} {E : XK} (M : Md P K w mg) (F_Level : FnC P w K mg base k 1 g_Level___init__ [] "Level") (F_Lister : FnC P w K mg base k 1 g_Lister___init__ [] "Lister")
    (hr : Room (k + 1) (A.deeper (envOfC "SayingReader.__init__" (defScope (inClass (top 35) 0)) s.heap.objs.size f cdv))) :
    PSs (cxOf (L2.CX P w) P w K mg base N_SayingReader___init__ "SayingReader.__init__" (defScope (inClass (top 35) 0)) f cdv A outer s H E) (defBody (inClass (top 35) 0)) (RS K (wE E) r_SayingReader___init__) := by
  have S := S_SayingReader___init__
  have hF : FldOk (cxOf (L2.CX P w) P w K mg base N_SayingReader___init__ "SayingReader.__init__" (defScope (inClass (top 35) 0)) f cdv A outer s H E) FF := M.fld _ rfl
  exact (sv_seq (sv_setf hF (ev_var 0) (ev_var 1))
  (sv_seq (sv_setf hF (ev_var 0) (ev_make0 F_Lister hr (takes_of rfl rfl rfl rfl)))
  (sv_seq (sv_setf hF (ev_var 0) (ev_lst (av_cons (ev_make0 F_Level hr (takes_of rfl rfl rfl rfl)) av_nil)))
  (sv_seq (sv_setf hF (ev_var 0) ev_str)
  (sv_seq (sv_setf hF (ev_var 0) (ev_tup av_nil))
  (sv_one (sv_setf hF (ev_var 0) ev_int)))))))
end L2.EV
set_option maxHeartbeats 1000000
/-! K01L1: the promises of plain.py are kept. -/
namespace L2.EV
open PySem PySem.Spec PyProof.Rows
theorem isi_of {m : Mem} {d : D} {a b : String} {f : Bool → Prop} (h : tyN m d = some a) (hb : okTy b = true) : isiQ m d (.ty b) f = f (isTy a b) := by
  simp [isiQ, tysOf, h, hb]
theorem isi_of2 {m : Mem} {d : D} {a b c : String} {f : Bool → Prop} (h : tyN m d = some a) (hb : okTy b = true) (hc : okTy c = true) : isiQ m d (.tup [.ty b, .ty c]) f = f (isTy a b || isTy a c) := by
  simp [isiQ, tysOf, h, hb, hc]
theorem ty_cases {m : Mem} {d : D} {a : String} (h : tyN m d = some a) : a ∈ tyNames := tyN_mem h
theorem l_is_integer {ds : List D} {m : Mem} {Q : QD} {X : XD} (h : g_is_integer ds m Q X) : r_is_integer (startD N_is_integer.length ds) m (zsOf Q X) := by
  obtain ⟨d, lo, hi, rfl, ⟨⟨a, ht⟩, _⟩, h⟩ := h
  show r_is_integer [some d, some (.int lo), some (.int hi)] m (zsOf Q X)
  have e1 : okTy "int" = true := by decide
  have e2 : okTy "bool" = true := by decide
  have hb : isTy a "int" = true → isTy a "bool" = false → ∃ i, d = .int i := by
    intro h1 h2
    cases d with
    | int i => exact ⟨i, rfl⟩
    | ref p => simp only [tyN] at ht; split at ht <;> cases ht <;> exact absurd h1 (by decide)
    | _ => cases ht <;> first | exact absurd h1 (by decide) | exact absurd h2 (by decide)
  have hn : (isTy a "int" && !isTy a "bool") = false → isIntD d lo hi = false := by
    intro h1
    cases d with
    | int i => cases ht; exact absurd h1 (by decide)
    | _ => rfl
  simp only [r_is_integer, sRet, eAnd, eB, aCons, eVar, aNil, eK, bIsi, d2Q, List.getElem?_cons_zero, List.getElem?_cons_succ, isi_of ht e1, isi_of ht e2, eNot, bK]
  cases h1 : isTy a "int" with
  | false =>
    rw [hn (by rw [h1]; rfl)] at h
    exact h
  | true =>
    cases h2 : isTy a "bool" with
    | true =>
      rw [hn (by rw [h1, h2]; rfl)] at h
      exact h
    | false =>
      obtain ⟨i, rfl⟩ := hb h1 h2
      simp only [isIntD] at h
      by_cases h3 : lo ≤ i
      · simp only [h3, decide_true, Bool.true_and] at h
        simp [eChain, dLe, h3, eVar, zsOf]
        exact h
      · simp only [h3, decide_false, Bool.false_and] at h
        simp [eChain, dLe, h3, eVar, zsOf]
        exact h
theorem l_is_listed {ds : List D} {m : Mem} {Q : QD} {X : XD} (h : g_is_listed ds m Q X) : r_is_listed (startD N_is_listed.length ds) m (zsOf Q X) := by
  obtain ⟨d, rfl, ⟨⟨a, ht⟩, hst, _⟩, h⟩ := h
  show r_is_listed [some d] m (zsOf Q X)
  have e1 : okTy "tuple" = true := by decide
  have e2 : okTy "list" = true := by decide
  have e3 : (2 : Nat) ≤ sizeLine := by rw [sizeLine_eq]; decide
  simp only [r_is_listed, sRet, eB, aCons, eVar, aNil, eK, eTup, bIsi, d2Q, List.getElem?_cons_zero, List.getElem?_cons_succ, isi_of2 ht e1 e2]
  refine ⟨e3, ?_⟩
  have : (isTy a "tuple" || isTy a "list") = (lstd m d).isSome := by
    cases d with
    | ref p =>
      simp only [tyN] at ht
      simp only [lstd]
      cases q : m p with
      | none => rw [q] at ht; cases ht
      | some o => rw [q] at ht; cases o <;> cases ht <;> rfl
    | _ => cases ht <;> rfl
  rw [this]
  exact h
/-! ### what more memory leaves -/
theorem tyN_sub {m m' : Mem} (h : Sub m m') {d : D} {a : String} (e : tyN m d = some a) : tyN m' d = some a := by
  cases d with
  | ref p =>
    simp only [tyN] at e ⊢
    cases q : m p with
    | none => rw [q] at e; cases e
    | some o => rw [h p o q]; rw [q] at e; exact e
  | _ => exact e
theorem typed.sub {m m' : Mem} (h : Sub m m') {d : D} (t : typed m d) : typed m' d := let ⟨⟨a, e⟩, z⟩ := t; ⟨⟨a, tyN_sub h e⟩, z⟩
theorem lstd_sub {m m' : Mem} (h : Sub m m') {d : D} (t : typed m d) : lstd m' d = lstd m d := by
  obtain ⟨⟨a, e⟩, _⟩ := t
  cases d with
  | ref p =>
    simp only [tyN] at e
    simp only [lstd]
    cases q : m p with
    | none => rw [q] at e; cases e
    | some o => rw [h p o q]
  | _ => rfl
theorem okT.typed {n : Nat} {m : Mem} {d : D} (h : okT n m d) : typed m d := by
  cases n with
  | zero => exact h
  | succ n => exact h.1
theorem okT.sub {m m' : Mem} (s : Sub m m') : ∀ {n : Nat} {d : D}, okT n m d → okT n m' d
  | 0, d, h => EV.typed.sub s h
  | n + 1, d, h => ⟨h.1.sub s, fun xs e => by
    rw [lstd_sub s h.1] at e
    exact ⟨(h.2 xs e).1, fun x hx => okT.sub s ((h.2 xs e).2 x hx)⟩⟩
theorem deepD_sub {m m' : Mem} (s : Sub m m') : ∀ {n : Nat} {d : D}, okT n m d → deepD n m' d = deepD n m d
  | 0, d, h => rfl
  | n + 1, d, h => by
    simp only [deepD]
    rw [lstd_sub s h.1]
    cases e : lstd m d with
    | none => rfl
    | some xs => exact congrArg D.tup (List.map_congr_left fun x hx => deepD_sub s ((h.2 xs e).2 x hx))
theorem iterQ_lstd {m : Mem} {d : D} {xs : List D} {Q : ItD → Mem → Prop} (e : lstd m d = some xs) (h : ∀ G, (∀ m', Sub m m' → G m') → Q ⟨G, xs⟩ m) : iterQ d m Q := by
  cases d with
  | tup ys => cases e; exact h _ fun _ _ => trivial
  | ct ys => cases e; exact h _ fun _ _ => trivial
  | lis ys => cases e; exact h _ fun _ _ => trivial
  | ref p =>
    simp only [lstd] at e
    simp only [iterQ]
    cases q : m p with
    | none => rw [q] at e; cases e
    | some o =>
      rw [q] at e
      cases o with
      | lst ys => cases e; exact h _ fun m' s => s p _ q
      | _ => cases e
  | _ => cases e
theorem l_deep {k : Nat} {ds : List D} {m : Mem} {Q : QD} {X : XD} (h : g_deepN (k + 1) ds m Q X) : r_deep (g_deepN k) (startD N_deep.length ds) m (zsOf Q X) := by
  obtain ⟨d, n, rfl, hn, ho, h⟩ := h
  show r_deep (g_deepN k) [some d, some (.int n), none] m (zsOf Q X)
  simp only [r_deep, sSeq, sIf, tOr, tNot, tTru, eCall, aCons, aNil, eVar, List.getElem?_cons_zero, List.getElem?_cons_succ, List.append_nil]
  refine ⟨d, rfl, ho.typed, ?_⟩
  simp only [truK]
  refine ⟨fun hl => ?_, fun hl => ?_⟩
  · -- no list
    have e0 : lstd m d = none := by
      cases q : lstd m d with
      | none => rfl
      | some xs => rw [q] at hl; cases hl
    refine ⟨fun _ => ?_, fun z => by cases z⟩
    have hd : deepD n m d = d := by
      cases n with
      | zero => rfl
      | succ n => simp only [deepD, e0]
    have := h m (Sub.refl m)
    rw [hd] at this
    exact this
  · simp only [tOf, eBin, eVar, eK, List.getElem?_cons_zero, List.getElem?_cons_succ, dEq_int, bK]
    refine ⟨fun h0 => ?_, fun h0 => ?_⟩
    · have e : n = 0 := by simpa using h0
      subst e
      exact h m (Sub.refl m)
    · obtain ⟨n, rfl⟩ : ∃ n', n = n' + 1 := ⟨n - 1, by
        have : ¬ ((n : Int) = 0) := by simpa using h0
        omega⟩
      obtain ⟨xs, e⟩ : ∃ xs, lstd m d = some xs := by
        cases q : lstd m d with
        | none => rw [q] at hl; cases hl
        | some xs => exact ⟨xs, rfl⟩
      simp only [sNil, sRet, eB, aCons, aNil, eLc, iSeq, eVar, List.getElem?_cons_zero]
      refine iterQ_lstd e fun G hG p hp => ?_
      have hs : Sub m (mup m p (.lst [])) := sub_new hp
      refine lc_map (deepD n m) (m0 := m) hp hG (fun x hx m1 K s1 k => ?_) (ho.2 xs e).1 hs mup_same fun m' s' e' => ?_
      · have s1' : Sub m m1 := s1
        simp only [wipeD, eCall, aCons, aNil, eVar, eBin, dSub, eK, List.set_cons_succ, List.set_cons_zero, List.getElem?_cons_zero, List.getElem?_cons_succ, List.append_nil]
        refine ⟨x, n, by simp, by omega, ((ho.2 xs e).2 x hx).sub s1', fun m2 s2 => ?_⟩
        rw [deepD_sub s1' ((ho.2 xs e).2 x hx)]
        exact k m2 s2
      · simp only [bTuple, d1Q, tupQ, e']
        have := h m' s'
        simp only [deepD, e] at this
        exact this
theorem l_is_ascending {ds : List D} {m : Mem} {Q : QD} {X : XD} (h : g_is_ascending ds m Q X) : r_is_ascending (startD N_is_ascending.length ds) m (zsOf Q X) := by
  obtain ⟨z, rfl, hz, h⟩ := h
  show r_is_ascending [some (.str z), none] m (zsOf Q X)
  have hlen : z.length = z.cps.toList.length := by show z.cps.size = _; simp
  simp only [r_is_ascending, sNil, sSeq, sExpr, sRet, sRetN, sIf, sBrk, sCont, sAsg, gN, gsNil, gsCons, gT, sFor, sSetIx, dSetIx, sSetF, fldQ, sAug, sAugF, sRaise, xs_, zsOf, eK, eVar, eBin, eUn, eChain, eAnd, eOr, eNot, eIf, tOf, bK, tAnd, tOr, tNot, tTru, truK, aNil, aCons, eTup, eLst, dRef, eNewK, eNewT, eFld, eCut, oNone, oSome, dCut, eB, eM, eCall, eMeth, insQ, eMake, eCallL, eLc, tYesD, wipeD, iSeq, iterQ, noG, iR1, iR2, iZip2, iEn, d1Q, d2Q, lstQ, strQ, intQ, optQ, lenQ, bLen, bIsi, isiQ, tysOf, bList, bTuple, tupQ, bInt, bAbs, bSum, bAll, bAny, isLst, isStr, mAppend, mPop, mExtend, mIndex, mJoin, dEq, dNe, dIs, dIsNot, dLt, dLe, dGt, dGe, dAdd, dSub, dMul, dMod, dFdiv, dPow, dShr, dShl, dNeg, dIx, someQ, signQ, dIn, dNotIn, dInB, oneQ, isSomeQ, dIAdd, eRev, eDisp, pNil, pCons, List.getElem?_cons_zero, List.getElem?_cons_succ, and_true, true_and]
  have hz2 : z.length ≤ sizeLine := by rw [sizeLine_eq]; omega
  refine ⟨hz2, ⟨by omega, by omega⟩, fun p hp => ?_⟩
  have hs : Sub m (mup m p (.lst [])) := sub_new hp
  let f : D → D := fun d => match d with
    | .int k => .bl (decide ((z.cps.toList[k.toNat]?).getD 0 < (z.cps.toList[k.toNat + 1]?).getD 0))
    | _ => .non
  refine lc_map f (m0 := m) hp (fun _ _ => trivial) (fun x hx m1 K s1 k => ?_) (by rw [List.length_map, List.length_range, sizeLine_eq]; omega) hs mup_same fun m' s' e' => ?_
  · obtain ⟨i, hi, rfl⟩ := List.mem_map.mp hx
    have hi' : i + 1 < z.cps.toList.length := by rw [List.mem_range] at hi; omega
    have g1 : atI z.cps.toList (i : Int) = some (z.cps.toList[i]'(by omega)) := by
      rw [atI_nat]; exact List.getElem?_eq_getElem _
    have g2 : atI z.cps.toList ((i : Int) + 1) = some (z.cps.toList[i + 1]'hi') := by
      rw [show ((i : Int) + 1) = ((i + 1 : Nat) : Int) by omega, atI_nat]; exact List.getElem?_eq_getElem _
    have := k m1 (Sub.refl m1)
    simp only [f] at this
    simp only [sNil, sSeq, sExpr, sRet, sRetN, sIf, sBrk, sCont, sAsg, gN, gsNil, gsCons, gT, sFor, sSetIx, dSetIx, sSetF, fldQ, sAug, sAugF, sRaise, xs_, zsOf, eK, eVar, eBin, eUn, eChain, eAnd, eOr, eNot, eIf, tOf, bK, tAnd, tOr, tNot, tTru, truK, aNil, aCons, eTup, eLst, dRef, eNewK, eNewT, eFld, eCut, oNone, oSome, dCut, eB, eM, eCall, eMeth, insQ, eMake, eCallL, eLc, tYesD, wipeD, iSeq, iterQ, noG, iR1, iR2, iZip2, iEn, d1Q, d2Q, lstQ, strQ, intQ, optQ, lenQ, bLen, bIsi, isiQ, tysOf, bList, bTuple, tupQ, bInt, bAbs, bSum, bAll, bAny, isLst, isStr, mAppend, mPop, mExtend, mIndex, mJoin, dEq, dNe, dIs, dIsNot, dLt, dLe, dGt, dGe, dAdd, dSub, dMul, dMod, dFdiv, dPow, dShr, dShl, dNeg, dIx, someQ, signQ, dIn, dNotIn, dInB, oneQ, isSomeQ, dIAdd, eRev, eDisp, pNil, pCons, List.set_cons_succ, List.set_cons_zero, List.getElem?_cons_zero, List.getElem?_cons_succ, g1, g2, hz2, true_and]
    have l1 : ∀ a b : Nat, decide (([a] : List Nat) < [b]) = decide (a < b) := fun a b => decide_eq_decide.mpr (by rw [List.cons_lt_cons_iff]; simp)
    show K (.bl (decide (([z.cps.toList[i]'(by omega)] : List Nat) < [z.cps.toList[i + 1]'hi']))) m1
    rw [l1]
    rw [Int.toNat_natCast, List.getElem?_eq_getElem (by omega : i < z.cps.toList.length), List.getElem?_eq_getElem hi'] at this
    exact this
  · have e2 : (List.map f (List.map (fun i => D.int (i : Nat)) (List.range ((z.length : Int) - 1).toNat))) = (List.map (fun i => decide ((z.cps.toList[i]?).getD 0 < (z.cps.toList[i + 1]?).getD 0)) (List.range ((z.length : Int) - 1).toNat)).map D.bl := by
      rw [List.map_map, List.map_map]; rfl
    rw [e2] at e'
    rw [lisOf_ref e', Option.bind_some, blsOf_map]
    have := h m' s'
    have key : ((List.map (fun i => decide ((z.cps.toList[i]?).getD 0 < (z.cps.toList[i + 1]?).getD 0)) (List.range ((z.length : Int) - 1).toNat)).all id) = asc z.cps.toList := by
      have hn : ((z.length : Int) - 1).toNat = z.cps.toList.length - 1 := by omega
      rw [hn]
      have h3 : z.cps.toList.length ≤ 3 := by omega
      generalize z.cps.toList = l at h3
      match l, h3 with
      | [], _ => rfl
      | [a], _ => rfl
      | [a, b], _ => simp [asc]
      | [a, b, c], _ => simp [asc, List.range_succ]
    show Q (.bl (List.all _ id)) m'
    rw [key]
    exact this
theorem str_of_ty {m : Mem} {d : D} {a : String} (h : tyN m d = some a) (e : isTy a "str" = true) : ∃ z, d = .str z := by
  cases d with
  | str z => exact ⟨z, rfl⟩
  | ref p => simp only [tyN] at h; split at h <;> cases h <;> exact absurd e (by decide)
  | _ => cases h <;> exact absurd e (by decide)
theorem ty_str {a : String} {z : Str} {m : Mem} (h : tyN m (.str z) = some a) : isTy a "str" = true := by cases h; rfl
theorem l_is_names {ds : List D} {m : Mem} {Q : QD} {X : XD} (h : g_is_names ds m Q X) : r_is_names (startD N_is_names.length ds) m (zsOf Q X) := by
  obtain ⟨d, rfl, ⟨⟨a, ht⟩, hst, _⟩, h⟩ := h
  show r_is_names [some d, none] m (zsOf Q X)
  have e1 : okTy "str" = true := by decide
  simp only [r_is_names, sSeq, sIf, tOr, tNot, tTru, eB, bIsi, aCons, aNil, eVar, eK, d2Q, List.getElem?_cons_zero, List.getElem?_cons_succ, isi_of ht e1, truK]
  refine ⟨fun hb => ?_, fun hb => ?_⟩
  · refine ⟨fun _ => ?_, fun z => by cases z⟩
    have hd : namesOk d = false := by
      cases d with
      | str z => rw [ty_str ht] at hb; cases hb
      | _ => rfl
    have := h m (Sub.refl m)
    rw [hd] at this
    exact this
  · have hb' : isTy a "str" = true := by simpa using hb
    obtain ⟨z, rfl⟩ := str_of_ty ht hb'
    simp only [sNil, sSeq, sExpr, sRet, sRetN, sIf, sBrk, sCont, sAsg, gN, gsNil, gsCons, gT, sFor, sSetIx, dSetIx, sSetF, fldQ, sAug, sAugF, sRaise, xs_, zsOf, eK, eVar, eBin, eUn, eChain, eAnd, eOr, eNot, eIf, tOf, bK, tAnd, tOr, tNot, tTru, truK, aNil, aCons, eTup, eLst, dRef, eNewK, eNewT, eFld, eCut, oNone, oSome, dCut, eB, eM, eCall, eMeth, insQ, eMake, eCallL, eLc, tYesD, wipeD, iSeq, iterQ, noG, iR1, iR2, iZip2, iEn, d1Q, d2Q, lstQ, strQ, intQ, optQ, lenQ, bLen, bIsi, isiQ, tysOf, bList, bTuple, tupQ, bInt, bAbs, bSum, bAll, bAny, isLst, isStr, mAppend, mPop, mExtend, mIndex, mJoin, dEq, dNe, dIs, dIsNot, dLt, dLe, dGt, dGe, dAdd, dSub, dMul, dMod, dFdiv, dPow, dShr, dShl, dNeg, dIx, someQ, signQ, dIn, dNotIn, dInB, oneQ, isSomeQ, dIAdd, eRev, eDisp, pNil, pCons, List.getElem?_cons_zero, List.getElem?_cons_succ]
    obtain ⟨hz1, hz2⟩ := hst z rfl
    refine ⟨hz1, ?_⟩
    have no : (decide (1 ≤ z.length) && decide (z.length ≤ 3)) = false → Q (.bl false) m := fun e => by
      have := h m (Sub.refl m)
      rw [show namesOk (.str z) = false by simp only [namesOk, e, Bool.false_and]] at this
      exact this
    have go : ∀ p Qf, m p = none → (∀ m' : Mem, Sub m m' → m' p = some (.lst ((z.cps.toList.map fun c => decide (c ∈ abc.cps.toList)).map D.bl)) → Qf m') →
        lcN noG (gN 1) tYesD (eBin (dIn TT) (eVar 1) (eK c_LETTERS)) p ([some (D.str z), none].set 1 none) Qf (signs z) (mup m p (MO.lst [])) := fun p Qf hp hf => by
      let f : D → D := fun d => match d with
        | .str k => .bl (match k.cps.toList with
          | [n] => decide (n ∈ abc.cps.toList)
          | _ => false)
        | _ => .non
      refine lc_map f (m0 := m) hp (fun _ _ => trivial) (fun x hx m1 K s1 k => ?_) (by simp only [signs, List.length_map]; show z.cps.toList.length ≤ _; rw [Array.length_toList]; exact hz1) (sub_new hp) mup_same fun m' s' e' => ?_
      · obtain ⟨c, hc, rfl⟩ := List.mem_map.mp hx
        exact k m1 (Sub.refl m1)
      · have e2 : (signs z).map f = (z.cps.toList.map fun c => decide (c ∈ abc.cps.toList)).map D.bl := by
          simp only [signs, List.map_map]; rfl
        rw [e2] at e'
        exact hf m' s' e'
    by_cases l1 : (1 : Int) ≤ (z.length : Int)
    · rw [decide_eq_true l1]
      by_cases l2 : (z.length : Int) ≤ 3
      · rw [decide_eq_true l2]
        refine ⟨fun e => (by cases e), fun _ p hp => go p _ hp fun m' s' e' => ?_⟩
        simp only [lisOf_ref e', Option.bind_some, blsOf_map]
        have l1' : 1 ≤ z.length := by omega
        have l2' : z.length ≤ 3 := by omega
        have hh : ∀ b, namesOk (.str z) = b → Q (.bl b) m' := fun b e => by have := h m' s'; rw [e] at this; exact this
        have hn : namesOk (.str z) = ((z.cps.toList.all fun c => abc.cps.toList.contains c) && asc z.cps.toList) := by simp [namesOk, l1', l2']
        have ha : ((z.cps.toList.map fun c => decide (c ∈ abc.cps.toList)).all id) = (z.cps.toList.all fun c => abc.cps.toList.contains c) := by
          rw [List.all_map]; congr 1; funext c; simp
        rw [ha]
        cases q : z.cps.toList.all fun c => abc.cps.toList.contains c with
        | false => exact hh false (by rw [hn, q]; rfl)
        | true => exact ⟨z, rfl, l2', fun m'' s'' => by
            have := h m'' (s'.trans s'')
            rw [hn, q, Bool.true_and] at this
            exact this⟩
      · rw [decide_eq_false l2]
        exact ⟨fun _ => no (by rw [decide_eq_false (by omega : ¬ z.length ≤ 3), Bool.and_false]), fun e => by cases e⟩
    · rw [decide_eq_false l1]
      exact ⟨fun _ => no (by rw [decide_eq_false (by omega : ¬ 1 ≤ z.length), Bool.false_and]), fun e => by cases e⟩
theorem l_check_names {ds : List D} {m : Mem} {Q : QD} {X : XD} (h : g_check_names ds m Q X) : r_check_names (startD N_check_names.length ds) m (zsOf Q X) := by
  obtain ⟨d, rfl, ht, h1, h2⟩ := h
  show r_check_names [some d] m (zsOf Q X)
  simp only [r_check_names, sNil, sSeq, sExpr, sRet, sRetN, sIf, sBrk, sCont, sAsg, gN, gsNil, gsCons, gT, sFor, sSetIx, dSetIx, sSetF, fldQ, sAug, sAugF, sRaise, xs_, zsOf, eK, eVar, eBin, eUn, eChain, eAnd, eOr, eNot, eIf, tOf, bK, tAnd, tOr, tNot, tTru, truK, aNil, aCons, eTup, eLst, dRef, eNewK, eNewT, eFld, eCut, oNone, oSome, dCut, eB, eM, eCall, eMeth, insQ, eMake, eCallL, eLc, tYesD, wipeD, iSeq, iterQ, noG, iR1, iR2, iZip2, iEn, d1Q, d2Q, lstQ, strQ, intQ, optQ, lenQ, bLen, bIsi, isiQ, tysOf, bList, bTuple, tupQ, bInt, bAbs, bSum, bAll, bAny, isLst, isStr, mAppend, mPop, mExtend, mIndex, mJoin, dEq, dNe, dIs, dIsNot, dLt, dLe, dGt, dGe, dAdd, dSub, dMul, dMod, dFdiv, dPow, dShr, dShl, dNeg, dIx, someQ, signQ, dIn, dNotIn, dInB, oneQ, isSomeQ, dIAdd, eRev, eDisp, pNil, pCons, List.getElem?_cons_zero, List.getElem?_cons_succ, List.append_nil]
  refine ⟨d, rfl, ht, fun m' s' => ?_⟩
  simp only [truK]
  cases q : namesOk d with
  | true => exact ⟨fun e => (by cases e), fun _ => h1 q m' s'⟩
  | false => exact ⟨fun _ => ⟨trivial, fun p hp => h2 q m' p s' hp⟩, fun e => by cases e⟩
theorem l_is_term {ds : List D} {m : Mem} {Q : QD} {X : XD} (h : g_is_term ds m Q X) : r_is_term (startD N_is_term.length ds) m (zsOf Q X) := by
  obtain ⟨z, d, rfl, ⟨⟨a, ht⟩, hst, _⟩, h⟩ := h
  show r_is_term [some (.str z), some d] m (zsOf Q X)
  have e1 : okTy "str" = true := by decide
  simp only [r_is_term, sSeq, sIf, tNot, tTru, eB, bIsi, aCons, aNil, eVar, eK, d2Q, List.getElem?_cons_zero, List.getElem?_cons_succ, isi_of ht e1, truK]
  refine ⟨fun hb => ?_, fun hb => ?_⟩
  · have hd : termOk z d = false := by
      cases d with
      | str z => rw [ty_str ht] at hb; cases hb
      | _ => rfl
    rw [hd] at h
    exact h
  · have hb' : isTy a "str" = true := by simpa using hb
    obtain ⟨x, rfl⟩ := str_of_ty ht hb'
    obtain ⟨hz1, hz2⟩ := hst x rfl
    simp only [sNil, sRet, eOr, eBin, eVar, eK, eAnd, eB, aCons, aNil, bLen, d1Q, lenQ, List.getElem?_cons_zero, List.getElem?_cons_succ, c_NIL, dEq_str hz2 (by decide +kernel : PyData.strOk "nil" = true), dEq_int]
    by_cases q : x = "nil"
    · subst q
      exact h
    · rw [decide_eq_false q]
      refine ⟨hz1, ?_⟩
      by_cases l : (x.length : Int) = 1
      · rw [decide_eq_true l]
        have l' : x.length = 1 := by omega
        obtain ⟨n, hn⟩ : ∃ n, x.cps.toList = [n] := by
          have : x.cps.toList.length = 1 := by rw [Array.length_toList]; exact l'
          exact List.length_eq_one_iff.mp this
        have ht : termOk z (.str x) = decide (n ∈ z.cps.toList) := by
          simp only [termOk, decide_eq_false q, Bool.false_or, decide_eq_true l', Bool.true_and, hn, List.all_cons, List.all_nil, Bool.and_true]
          simp
        rw [ht] at h
        show dInB TT (.str x) (.str z) m fun b => Q (.bl b) m
        simp only [dInB, strQ, oneQ, hn]
        exact h
      · rw [decide_eq_false l]
        have ht : termOk z (.str x) = false := by simp only [termOk, decide_eq_false q, Bool.false_or, decide_eq_false (by omega : ¬ x.length = 1), Bool.false_and]
        rw [ht] at h
        exact h
end L2.EV
set_option maxHeartbeats 1000000
/-! K01L2: sheets. -/
namespace L2.EV
open PySem PySem.Spec PyProof.Rows
theorem tabForms (w : Str) : tabGet TT "FORMS" w = (formOf w).map D.str := by
  have e : TT "FORMS" = formL.map fun p => (p.1, D.str p.2) := by rfl
  unfold tabGet formOf
  rw [e]
  induction formL with
  | nil => rfl
  | cons p l ih =>
    obtain ⟨a, b⟩ := p
    rw [List.map_cons, List.lookup_cons, List.lookup_cons]
    cases w == a with
    | true => rfl
    | false => exact ih
theorem ix_lstd {m : Mem} {d : D} {xs : List D} {i : Int} {x : D} {Q : QD} (e : lstd m d = some xs) (h : atI xs i = some x) : dIx TT d (.int i) m Q = Q x m := by
  cases d with
  | tup ys => cases e; simp [dIx, intQ, h, someQ]
  | ct ys => cases e; simp [dIx, intQ, h, someQ]
  | lis ys => cases e; simp [dIx, intQ, h, someQ]
  | ref p =>
    simp only [lstd] at e
    cases q : m p with
    | none => rw [q] at e; cases e
    | some o =>
      rw [q] at e
      cases o with
      | lst ys => cases e; simp [dIx, intQ, h, someQ, q]
      | _ => cases e
  | _ => cases e
theorem len_lstd {m : Mem} {d : D} {xs : List D} {f : Nat → Prop} (e : lstd m d = some xs) : lenQ d m f = f xs.length := by
  cases d with
  | tup ys => cases e; rfl
  | ct ys => cases e; rfl
  | lis ys => cases e; rfl
  | ref p =>
    simp only [lstd] at e
    cases q : m p with
    | none => rw [q] at e; cases e
    | some o =>
      rw [q] at e
      cases o with
      | lst ys => cases e; simp [lenQ, q]
      | _ => cases e
  | _ => cases e
theorem cut1 (xs : List D) : cutD xs (some 1) none = xs.drop 1 := by
  unfold cutD
  rw [HT.sIx_none, show (some (1 : Int)) = some ((1 : Nat) : Int) from rfl, HT.sIx_nat]
  cases xs with
  | nil => rfl
  | cons x xs =>
    rw [show min 1 (x :: xs).length = 1 by simp]
    exact List.take_of_length_le (by simp)
theorem cut_lstd {m : Mem} {d : D} {xs : List D} {Q : QD} (e : lstd m d = some xs) (hc : ∀ ys, d ≠ .ct ys) (h : ∀ d' m', Sub m m' → lstd m' d' = some (xs.drop 1) → (∀ ys, d' ≠ .ct ys) → Q d' m') : dCut d (some 1) none m Q := by
  have new : ∀ ys, dRef m (.lst (ys : List D)) Q = ∀ p, m p = none → Q (.ref p) (mup m p (.lst ys)) := fun _ => rfl
  cases d with
  | tup ys => cases e; simp only [dCut, cut1]; exact h _ m (Sub.refl m) rfl (fun _ z => by cases z)
  | ct ys => exact absurd rfl (hc ys)
  | lis ys => cases e; simp only [dCut, cut1, new]; exact fun p hp => h _ _ (sub_new hp) (by simp [lstd]) (fun _ z => by cases z)
  | ref p =>
    simp only [lstd] at e
    cases q : m p with
    | none => rw [q] at e; cases e
    | some o =>
      rw [q] at e
      cases o with
      | lst ys => cases e; simp only [dCut, q, cut1, new]; exact fun p hp => h _ _ (sub_new hp) (by simp [lstd]) (fun _ z => by cases z)
      | _ => cases e
  | _ => cases e
theorem atI_zero {x : D} {xs : List D} : atI (x :: xs) 0 = some x := by rw [show (0 : Int) = ((0 : Nat) : Int) from rfl, atI_nat]; rfl
/-- FORMS[..] -/
theorem formIx {w : Str} {m : Mem} {Q : QD} {fm : Str} (h : formOf w = some fm) : dIx TT (.glob "FORMS") (.str w) m Q = Q (.str fm) m := by
  simp only [dIx, strQ, tabForms, h, Option.map_some, someQ]
theorem form_ok : ∀ p ∈ formL, p.2.length ≤ 2 ∧ PyData.strOk p.2 = true := by decide +kernel
theorem formOf_ok {w fm : Str} (h : formOf w = some fm) : fm.length ≤ 2 ∧ PyData.strOk fm = true := form_ok _ (lookup_mem' h)
theorem sgOk (c : Nat) (h : c < 0x110000) : PyData.strOk ⟨#[c]⟩ = true := by simp [PyData.strOk, h]
theorem form_sg {fm : Str} (h : PyData.strOk fm = true) {c : Nat} (hc : c ∈ fm.cps.toList) : c < 0x110000 := by
  have : fm.cps.all (· < 0x110000) = true := h
  rw [← Array.all_toList, List.all_eq_true] at this
  simpa using this c hc
theorem sgEq (c n : Nat) : decide ((⟨#[c]⟩ : Str) = ⟨#[n]⟩) = decide (c = n) := decide_eq_decide.mpr ⟨fun e => by simpa using e, fun e => by rw [e]⟩
theorem iterQ_str {z : Str} {m : Mem} {Q : ItD → Mem → Prop} : iterQ (.str z) m Q = Q ⟨noG, signs z⟩ m := rfl
/-- the parts' loop of is_node -/
theorem node_loop {z : Str} {k : Int} {m0 : Mem} {Q : QD} {X : XD} {d fd : D} : ∀ (ss : List Nat) (as : List D) (e4 e5 : Option D) (m : Mem) (G : Mem → Prop), (∀ m', Sub m m' → G m') → (∀ s ∈ ss, s < 0x110000) → (∀ a ∈ as, typed m a) → Sub m0 m →
    (∀ m', Sub m0 m' → Q (.bl (partsOk z k ss as)) m') →
    forN G (gT 2 (gsCons (gN 4) (gsCons (gN 5) gsNil)))
      (sSeq (sIf (tAnd (tOf (eBin dEq (eVar 4) (eK (.str "t")))) (tNot (tTru (eCall g_is_term [] (aCons (eVar 0) (aCons (eVar 5) aNil))))))
        (sRet (eK (.bl false)))
        sNil)
       (sIf (tAnd (tOf (eBin dEq (eVar 4) (eK (.str "n")))) (tNot (tTru (eCall g_is_integer [] (aCons (eVar 5) (aCons (eK (.int 0)) (aCons (eBin dSub (eVar 2) (eK (.int 1))) aNil)))))))
        (sRet (eK (.bl false)))
        sNil)) { nx := fun e1 m1 => Q (.bl true) m1, rt := Q, bk := fun _ _ => False, ct := fun _ _ => False, ex := fun c d _ m => X c d m } (pairs (ss.map fun c => .str ⟨#[c]⟩) as) [some (.str z), some d, some (.int k), some fd, e4, e5] m
  | [], as, e4, e5, m, G, hG, _, _, hm, hf => by
    refine ⟨hG m (Sub.refl m), ?_⟩
    have := hf m hm
    simpa [partsOk] using this
  | s :: ss, [], e4, e5, m, G, hG, _, _, hm, hf => by
    refine ⟨hG m (Sub.refl m), ?_⟩
    have := hf m hm
    simpa [partsOk] using this
  | s :: ss, a :: as, e4, e5, m, G, hG, hs, ha, hm, hf => by
    have hs1 := sgOk s (hs s (List.mem_cons_self ..))
    have hta := ha a (List.mem_cons_self ..)
    have st := sgOk 116 (by decide)
    have sn := sgOk 110 (by decide)
    have et : ("t" : Str) = ⟨#[116]⟩ := by decide +kernel
    have en : ("n" : Str) = ⟨#[110]⟩ := by decide +kernel
    have dT : ∀ (m : Mem) (Q : QD), dEq (.str ⟨#[s]⟩) (.str "t") m Q = Q (.bl (decide (s = 116))) m := fun m Q => by rw [et, dEq_str hs1 st, sgEq]
    have dN : ∀ (m : Mem) (Q : QD), dEq (.str ⟨#[s]⟩) (.str "n") m Q = Q (.bl (decide (s = 110))) m := fun m Q => by rw [en, dEq_str hs1 sn, sgEq]
    have next : partOk z k s a = true → forN G (gT 2 (gsCons (gN 4) (gsCons (gN 5) gsNil))) _ _ (pairs (ss.map fun c => .str ⟨#[c]⟩) as) [some (.str z), some d, some (.int k), some fd, some (.str ⟨#[s]⟩), some a] m := fun hp =>
      node_loop (z := z) (k := k) (m0 := m0) (Q := Q) (X := X) (d := d) (fd := fd) ss as _ _ m G hG (fun c hc => hs c (List.mem_cons_of_mem _ hc)) (fun c hc => ha c (List.mem_cons_of_mem _ hc)) hm fun m' s' => by
        have := hf m' s'
        simp only [partsOk, hp, Bool.true_and] at this
        exact this
    have stop : partOk z k s a = false → Q (.bl false) m := fun hp => by
      have := hf m hm
      simp only [partsOk, hp, Bool.false_and] at this
      exact this
    refine ⟨hG m (Sub.refl m), rfl, ?_⟩
    simp only [gsCons, gN, gsNil, List.set_cons_succ, List.set_cons_zero, sSeq, sIf, tAnd, tOf, eBin, eVar, eK, List.getElem?_cons_zero, List.getElem?_cons_succ, dT, dN, bK, tNot, tTru, eCall, aCons, aNil, List.append_nil, dSub, sRet, sNil]
    by_cases h1 : s = 116
    · have h2 : ¬ s = 110 := by omega
      simp only [decide_eq_true h1, decide_eq_false h2, true_implies, reduceCtorEq, false_implies, true_and, and_true]
      refine ⟨z, a, rfl, hta, ?_⟩
      simp only [truK]
      have hp : partOk z k s a = termOk z a := by simp [partOk, h1]
      exact ⟨fun e => stop (by rw [hp]; simpa using e), fun e => next (by rw [hp]; simpa using e)⟩
    · simp only [decide_eq_false h1, reduceCtorEq, false_implies, true_implies, true_and]
      by_cases h2 : s = 110
      · simp only [decide_eq_true h2, true_implies, reduceCtorEq, false_implies, and_true]
        refine ⟨a, 0, k - 1, rfl, hta, ?_⟩
        simp only [truK]
        have hp : partOk z k s a = isIntD a 0 (k - 1) := by simp [partOk, h2]
        exact ⟨fun e => stop (by rw [hp]; simpa using e), fun e => next (by rw [hp]; simpa using e)⟩
      · simp only [decide_eq_false h2, reduceCtorEq, false_implies, true_implies, true_and]
        exact next (by simp [partOk, h1, h2])
theorem l_is_node {ds : List D} {m : Mem} {Q : QD} {X : XD} (h : g_is_node ds m Q X) : r_is_node (startD N_is_node.length ds) m (zsOf Q X) := by
  obtain ⟨z, d, k, rfl, ho, h⟩ := h
  show r_is_node [some (.str z), some d, some (.int k), none, none, none] m (zsOf Q X)
  have e1 : okTy "str" = true := by decide
  have no : nodeOk z m d k = false → Q (.bl false) m := fun e => by have := h m (Sub.refl m); rw [e] at this; exact this
  simp only [r_is_node, sSeq, sIf, tOr, tNot, tTru, tOf, eB, bLen, d1Q, eCall, eBin, aCons, aNil, eVar, eK, List.getElem?_cons_zero, List.getElem?_cons_succ, List.append_nil, truK]
  refine ⟨d, rfl, ho.1, ?_⟩
  cases e : lstd m d with
  | none =>
    have hn : nodeOk z m d k = false := by simp only [nodeOk, e]
    refine ⟨fun _ => ⟨fun _ => no hn, fun q => ?_⟩, fun q => ?_⟩
    · cases q
    · cases q
  | some xs =>
    refine ⟨fun q => (by cases q), fun _ => ?_⟩
    simp only [len_lstd e, dEq_int, bK]
    cases xs with
    | nil =>
      have hn : nodeOk z m d k = false := by simp only [nodeOk, e]
      refine ⟨fun _ => ⟨fun _ => no hn, fun q => ?_⟩, fun q => ?_⟩
      · cases q
      · simp at q
    | cons x args =>
      refine ⟨fun q => ?_, fun _ => ?_⟩
      · simp at q; omega
      · obtain ⟨hlen, hty⟩ := ho.2 _ e
        obtain ⟨⟨a, ht⟩, hst, hct⟩ := hty x (List.mem_cons_self ..)
        simp only [ix_lstd e atI_zero, bIsi, d2Q, isi_of ht e1]
        refine ⟨fun hb => ⟨fun _ => ?_, fun q => (by cases q)⟩, fun hb => ?_⟩
        · have hn : nodeOk z m d k = false := by
            simp only [nodeOk, e]
            cases x with
            | str w => rw [ty_str ht] at hb; cases hb
            | _ => rfl
          exact no hn
        · obtain ⟨w, rfl⟩ := str_of_ty ht (by simpa using hb)
          have hin : ∀ R : QD, dNotIn TT (.str w) c_FORMS m R = R (.bl (!(formOf w).isSome)) m := fun R => by
            show dInB TT (.str w) (.glob "FORMS") m (fun b => R (.bl (!b)) m) = _
            have hT : TT "FORMS" ≠ [] := by decide +kernel
            simp only [dInB, strQ, tabForms, Option.isSome_map]
            simp [hT]
          simp only [ix_lstd e atI_zero, hin]
          cases ef : formOf w with
          | none =>
            have hn : nodeOk z m d k = false := by simp only [nodeOk, e, ef]
            exact ⟨fun _ => no hn, fun q => (by cases q)⟩
          | some fm =>
            refine ⟨fun q => (by cases q), fun _ => ?_⟩
            obtain ⟨fl, fs⟩ := formOf_ok ef
            have hz : fm.length ≤ sizeLine := by rw [sizeLine_eq]; omega
            simp only [sNil, sAsg, gN, List.set_cons_succ, List.set_cons_zero, List.getElem?_cons_zero, List.getElem?_cons_succ]
            simp only [eBin, eVar, eK, List.getElem?_cons_zero, List.getElem?_cons_succ, ix_lstd e atI_zero]
            show dIx TT (.glob "FORMS") (.str w) m _
            rw [formIx ef]
            simp only [List.getElem?_cons_zero, List.getElem?_cons_succ, len_lstd e]
            simp only [lenQ, dAdd, dNe_int, bK]
            refine ⟨hz, ?_⟩
            by_cases hl : args.length = fm.length
            · refine ⟨fun q => ?_, fun _ => ?_⟩
              · exfalso
                rw [List.length_cons, hl] at q
                simp at q
                omega
              · simp only [sFor, iZip2, eCut, oSome, oNone, intQ, aCons, aNil, eVar, eK, List.getElem?_cons_zero, List.getElem?_cons_succ, sRet]
                refine cut_lstd e ho.1.2.2 fun d' m' s' e' _ => ?_
                rw [List.drop_one, List.tail_cons] at e'
                rw [iterQ_str]
                refine iterQ_lstd e' fun G hG => ?_
                refine node_loop (m0 := m) fm.cps.toList args none none m' _ (fun m2 s2 => ⟨trivial, hG m2 s2⟩) (fun c hc => form_sg fs hc) (fun x hx => (hty x (List.mem_cons_of_mem _ hx)).sub s') s' fun m2 s2 => ?_
                have := h m2 s2
                simp only [nodeOk, e, ef, hl, decide_true, Bool.true_and] at this
                exact this
            · have hn : nodeOk z m d k = false := by simp only [nodeOk, e, ef, decide_eq_false hl, Bool.false_and]
              refine ⟨fun _ => no hn, fun q => ?_⟩
              exfalso
              rw [List.length_cons] at q
              simp at q
              omega
end L2.EV
set_option maxHeartbeats 1000000
/-! K01L3: sheets checked; what a node refers to. -/
namespace L2.EV
open PySem PySem.Spec PyProof.Rows
theorem okT.mono : ∀ {j k : Nat} {m : Mem} {d : D}, j ≤ k → okT k m d → okT j m d
  | 0, _, _, _, _, h => h.typed
  | j + 1, k + 1, m, d, hj, h => ⟨h.1, fun xs e => ⟨(h.2 xs e).1, fun x hx => okT.mono (by omega) ((h.2 xs e).2 x hx)⟩⟩
theorem nodeOk_sub {z : Str} {m m' : Mem} {d : D} {k : Int} (s : Sub m m') (h : okT 1 m d) : nodeOk z m' d k = nodeOk z m d k := by
  simp only [nodeOk, lstd_sub s h.1]
theorem badAt_sub {z : Str} {m m' : Mem} (s : Sub m m') : ∀ {xs : List D} {k : Nat}, (∀ x ∈ xs, okT 1 m x) → badAt z m' k xs = badAt z m k xs
  | [], _, _ => rfl
  | x :: xs, k, h => by
    simp only [badAt]
    rw [nodeOk_sub s (h x (List.mem_cons_self ..)), badAt_sub s fun y hy => h y (List.mem_cons_of_mem _ hy)]
theorem sheet_loop {z : Str} {Q : QD} {X : XD} {d : D} {Zn : Sl → Mem → Prop} : ∀ (xs : List D) (k : Nat) (e2 e3 : Option D) (m : Mem) (G : Mem → Prop), (∀ m', Sub m m' → G m') → (∀ x ∈ xs, okT 1 m x) → k + xs.length < 10000 →
    (match badAt z m k xs with
      | some j => ∀ m' p, Sub m m' → m' p = none → X "BadSheet" (some p) (mup m' p (.xd [("number", .int (j : Nat))]))
      | none => ∀ m' e2 e3, Sub m m' → Zn [some (.str z), some d, e2, e3] m') →
    forN G (gT 2 (gsCons (gN 2) (gsCons (gN 3) gsNil)))
      (sIf (tNot (tTru (eCall g_is_node [] (aCons (eVar 0) (aCons (eVar 3) (aCons (eVar 2) aNil))))))
        (sRaise "BadSheet" "number" okInt (eVar 2))
        sNil) { nx := Zn, rt := Q, bk := fun _ _ => False, ct := fun _ _ => False, ex := fun c d _ m => X c d m } ((xs.zipIdx k).map fun p => .tup [.int (p.2 : Nat), p.1]) [some (.str z), some d, e2, e3] m
  | [], k, e2, e3, m, G, hG, _, _, hf => ⟨hG m (Sub.refl m), hf m e2 e3 (Sub.refl m)⟩
  | x :: xs, k, e2, e3, m, G, hG, ho, hk, hf => by
    refine ⟨hG m (Sub.refl m), rfl, ?_⟩
    have hx := ho x (List.mem_cons_self ..)
    simp only [gsCons, gN, gsNil, List.set_cons_succ, List.set_cons_zero, sIf, tNot, tTru, eCall, aCons, aNil, eVar, List.getElem?_cons_zero, List.getElem?_cons_succ, List.append_nil]
    refine ⟨z, x, (k : Nat), rfl, hx, fun m1 s1 => ?_⟩
    simp only [truK]
    simp only [badAt] at hf
    refine ⟨fun hb => ?_, fun hb => ?_⟩
    · have hb' : nodeOk z m x k = false := by simpa using hb
      rw [hb'] at hf
      simp only [sRaise, eVar, List.getElem?_cons_zero, List.getElem?_cons_succ]
      refine ⟨?_, fun p hp => hf m1 p s1 hp⟩
      show (((k : Nat) : Int).natAbs.log2 < 1920)
      rw [Int.natAbs_natCast]
      have hlt : k < 2 ^ 1920 := Nat.lt_of_lt_of_le (by omega : k < 2 ^ 14) (Nat.pow_le_pow_right (by decide) (by decide))
      by_cases h0 : k = 0
      · subst h0; decide
      · exact (Nat.log2_lt h0).mpr hlt
    · have hb' : nodeOk z m x k = true := by simpa using hb
      rw [hb', if_pos rfl] at hf
      refine sheet_loop xs (k + 1) _ _ m1 G (fun m2 s2 => hG m2 (s1.trans s2)) (fun y hy => (ho y (List.mem_cons_of_mem _ hy)).sub s1) (by rw [List.length_cons] at hk; omega) ?_
      rw [badAt_sub s1 fun y hy => ho y (List.mem_cons_of_mem _ hy)]
      cases q : badAt z m (k + 1) xs with
      | none => rw [q] at hf; exact fun m' e2 e3 s' => hf m' e2 e3 (s1.trans s')
      | some j => rw [q] at hf; exact fun m' p s' hp => hf m' p (s1.trans s') hp
theorem l_sheet_over {ds : List D} {m : Mem} {Q : QD} {X : XD} (h : g_sheet_over ds m Q X) : r_sheet_over (startD N_sheet_over.length ds) m (zsOf Q X) := by
  obtain ⟨z, d, rfl, ho, h⟩ := h
  show r_sheet_over [some (.str z), some d, none, none] m (zsOf Q X)
  simp only [r_sheet_over, sSeq, sIf, tOr, tNot, tTru, tOf, eB, bLen, d1Q, eCall, eChain, aCons, aNil, eVar, eK, List.getElem?_cons_zero, List.getElem?_cons_succ, List.append_nil, truK]
  refine ⟨d, rfl, ho.1, ?_⟩
  have ro : ∀ k : Int, sheetBad z m d = some k → k = -1 → sRaise "BadSheet" "number" okInt (eUn dNeg (eK (.int 1))) [some (.str z), some d, none, none] m (zsOf Q X) := fun k e hk => by
    rw [e] at h
    simp only [sRaise, eUn, eK, dNeg]
    refine ⟨by show ((-1 : Int).natAbs.log2 < 1920); decide, fun p hp => ?_⟩
    have := h m p (Sub.refl m) hp
    rw [hk] at this
    exact this
  cases e : lstd m d with
  | none =>
    have hs : sheetBad z m d = some (-1) := by simp only [sheetBad, e]
    refine ⟨fun _ => ⟨fun _ => ?_, fun q => (by cases q)⟩, fun q => (by cases q)⟩
    exact ro _ hs rfl
  | some xs =>
    refine ⟨fun q => (by cases q), fun _ => ?_⟩
    simp only [len_lstd e, dLe, bK, c_MOST_NODES]
    have bad : ¬ (1 ≤ xs.length ∧ xs.length ≤ 2000) → sRaise "BadSheet" "number" okInt (eUn dNeg (eK (.int 1))) [some (.str z), some d, none, none] m (zsOf Q X) := fun hn =>
      ro (-1) (by simp only [sheetBad, e, if_neg hn]) rfl
    by_cases l1 : (1 : Int) ≤ (xs.length : Int)
    · rw [decide_eq_true l1]
      by_cases l2 : (xs.length : Int) ≤ 2000
      · simp only [decide_eq_true l2]
        refine ⟨fun q => (by cases q), fun _ => ?_⟩
        simp only [sNil, sFor, iEn, aCons, aNil, eVar, List.getElem?_cons_zero, List.getElem?_cons_succ]
        refine iterQ_lstd e fun G hG => ?_
        have hs : sheetBad z m d = (badAt z m 0 xs).map Int.ofNat := by simp only [sheetBad, e]; exact if_pos (show 1 ≤ xs.length ∧ xs.length ≤ 2000 from ⟨by omega, by omega⟩)
        rw [hs] at h
        refine sheet_loop (Q := Q) (X := X) xs 0 none none m G hG (fun x hx => okT.mono (j := 1) (k := 29) (by decide) ((ho.2 xs e).2 x hx)) (by omega) ?_
        cases q : badAt z m 0 xs with
        | some j => rw [q] at h; exact h
        | none =>
          rw [q] at h
          intro m' e2 e3 s'
          simp only [sRet, eCall, aCons, aNil, eVar, List.getElem?_cons_zero, List.getElem?_cons_succ]
          refine ⟨d, 30, rfl, Nat.le_refl _, ho.sub s', fun m'' s'' => ?_⟩
          rw [deepD_sub s' ho]
          exact h m'' (s'.trans s'')
      · simp only [decide_eq_false l2]
        exact ⟨fun _ => bad (by omega), fun q => (by cases q)⟩
    · rw [decide_eq_false l1]
      exact ⟨fun _ => bad (by omega), fun q => (by cases q)⟩
theorem l_checked_sheet {ds : List D} {m : Mem} {Q : QD} {X : XD} (h : g_checked_sheet ds m Q X) : r_checked_sheet (startD N_checked_sheet.length ds) m (zsOf Q X) := by
  obtain ⟨c, d, rfl, hc, ho, h1, h2⟩ := h
  show r_checked_sheet [some c, some d] m (zsOf Q X)
  simp only [r_checked_sheet, sSeq, sExpr, sRet, eCall, aCons, aNil, eVar, List.getElem?_cons_zero, List.getElem?_cons_succ, List.append_nil]
  refine ⟨c, rfl, hc, fun hn m1 s1 => ?_, h1⟩
  obtain ⟨z, rfl⟩ : ∃ z, c = .str z := by
    cases c with
    | str z => exact ⟨z, rfl⟩
    | _ => cases hn
  refine ⟨z, d, rfl, ho.sub s1, ?_⟩
  have hb : sheetBad z m1 d = sheetBad z m d := by
    simp only [sheetBad, lstd_sub s1 ho.1]
    cases e : lstd m d with
    | none => rfl
    | some xs => dsimp only; rw [badAt_sub s1 fun x hx => okT.mono (j := 1) (k := 29) (by decide) ((ho.2 xs e).2 x hx)]
  rw [hb]
  have h := h2 z rfl hn
  cases q : sheetBad z m d with
  | some k => rw [q] at h; exact fun m' p s' hp => h m' p (s1.trans s') hp
  | none => rw [q] at h; rw [deepD_sub s1 ho]; exact fun m' s' => h m' (s1.trans s')
def fstR : D → D
  | .tup [_, a] => a
  | _ => .non
def isNR : D → Bool
  | .tup [.str s, _] => decide (s = "n")
  | _ => false
theorem refs_pairs : ∀ (ss : List Nat) (as : List D), ((pairs (ss.map fun c => .str ⟨#[c]⟩) as).filter isNR).map fstR = refsOf ss as
  | [], as => by simp [pairs, refsOf]
  | _ :: _, [] => by simp [pairs, refsOf]
  | s :: ss, a :: as => by
    have en : ("n" : Str) = ⟨#[110]⟩ := by decide +kernel
    have e1 : pairs ((s :: ss).map fun c => D.str ⟨#[c]⟩) (a :: as) = .tup [.str ⟨#[s]⟩, a] :: pairs (ss.map fun c => .str ⟨#[c]⟩) as := rfl
    rw [e1, List.filter_cons]
    have e2 : isNR (.tup [.str ⟨#[s]⟩, a]) = decide (s = 110) := by simp only [isNR, en]; exact sgEq s 110
    rw [e2]
    simp only [refsOf]
    by_cases h : s = 110
    · rw [if_pos h, decide_eq_true h, if_pos rfl, List.map_cons, refs_pairs ss as]; rfl
    · rw [if_neg h, decide_eq_false h, if_neg Bool.false_ne_true, refs_pairs ss as]
theorem pairs_mem {x : D} : ∀ {ss : List Nat} {as : List D}, x ∈ pairs (ss.map fun c => .str ⟨#[c]⟩) as → ∃ c a, x = .tup [.str ⟨#[c]⟩, a] ∧ c ∈ ss ∧ a ∈ as
  | [], as, h => by simp [pairs] at h
  | _ :: _, [], h => by simp [pairs] at h
  | s :: ss, a :: as, h => by
    rcases List.mem_cons.mp h with h | h
    · exact ⟨s, a, h, List.mem_cons_self .., List.mem_cons_self ..⟩
    · obtain ⟨c, b, e, h1, h2⟩ := pairs_mem h
      exact ⟨c, b, e, List.mem_cons_of_mem _ h1, List.mem_cons_of_mem _ h2⟩
theorem pairs_len (ss : List D) (as : List D) : (pairs ss as).length ≤ as.length := by
  simp only [pairs, List.length_map, List.length_zip]; omega
theorem l_referred {ds : List D} {m : Mem} {Q : QD} {X : XD} (h : g_referred ds m Q X) : r_referred (startD N_referred.length ds) m (zsOf Q X) := by
  obtain ⟨d, w, args, fm, rfl, hc, e, hlen, ef, h⟩ := h
  show r_referred [some d, none, none] m (zsOf Q X)
  obtain ⟨fl, fs⟩ := formOf_ok ef
  have sn : PyData.strOk "n" = true := by decide +kernel
  simp only [r_referred, sRet, eLc, iZip2, eBin, eCut, oSome, oNone, intQ, aCons, aNil, eVar, eK, List.getElem?_cons_zero, List.getElem?_cons_succ, ix_lstd e atI_zero]
  show dIx TT (.glob "FORMS") (.str w) m _
  rw [formIx ef]
  refine cut_lstd e hc fun d' m' s' e' _ => ?_
  rw [List.drop_one, List.tail_cons] at e'
  rw [iterQ_str]
  refine iterQ_lstd e' fun G hG p hp => ?_
  have hp0 : m p = none := s'.none hp
  show lcN (fun m' => noG m' ∧ G m') _ _ _ p (wipeD [some d, none, none] [1, 2]) _ (pairs (signs fm) args) _
  refine lc_gen (f := fstR) (b := isNR) (se := fun x => match x with
    | .tup [s, a] => [some d, some s, some a]
    | _ => []) (m0 := m') hp (fun m2 s2 => ⟨trivial, hG m2 s2⟩) _ [] _ (fun x hx m1 k hk => ?_) (fun x hx m1 k s1 hk => ?_) (fun x hx hb m1 k s1 hk => ?_) ?_ (sub_new hp) mup_same fun m2 s2 e2 => ?_
  · obtain ⟨c, a, rfl, _, _⟩ := pairs_mem hx
    exact ⟨rfl, hk⟩
  · obtain ⟨c, a, rfl, hc', _⟩ := pairs_mem hx
    have hs1 := sgOk c (form_sg fs hc')
    simp only [tOf, eBin, eVar, eK, List.getElem?_cons_zero, List.getElem?_cons_succ, dEq_str hs1 sn, bK]
    exact hk m1 (Sub.refl m1)
  · obtain ⟨c, a, rfl, _, _⟩ := pairs_mem hx
    exact hk m1 (Sub.refl m1)
  · have := pairs_len (signs fm) args
    rw [List.length_nil, sizeLine_eq]; omega
  · refine h m2 p (s'.trans s2) hp0 ?_
    rw [e2, List.nil_append]
    exact congrArg (fun l => some (MO.lst l)) (refs_pairs fm.cps.toList args)
end L2.EV
set_option maxHeartbeats 1000000
/-! K01L4: words: the lister, the scanner. -/
namespace L2.EV
open PySem PySem.Spec PyProof.Rows
theorem ffL1 : ("nodes" : Str) ∈ FF "Lister" := by decide +kernel
theorem ffL2 : ("known" : Str) ∈ FF "Lister" := by decide +kernel
theorem keysOf_dN (ks : List Key) : keysOf (dN ks) = some ks := by
  simp only [keysOf, dN]
  induction ks with
  | nil => rfl
  | cons k ks ih =>
    have e : keyOf (dK k) = some k := by cases k <;> rfl
    rw [List.map_cons, List.mapM_cons, e, ih]; rfl
theorem known_find (ks : List Key) : ∀ (ns : List (List Key)) (j : Nat), valK (ns.zipIdx j |>.map fun p => (p.1, D.int (p.2 : Nat))) ks = if inN ks ns = true then some (.int ((j + idxOf ks ns : Nat))) else none
  | [], j => by simp [valK, inN]
  | x :: ns, j => by
    have ih := known_find ks ns (j + 1)
    simp only [List.zipIdx_cons, List.map_cons]
    by_cases h : x = ks
    · subst h
      simp [valK, idxOf, List.findIdx_cons, inN]
    · have h' : ¬ ks = x := fun e => h e.symm
      have e1 : valK ((x, D.int (j : Nat)) :: (ns.zipIdx (j + 1)).map fun p => (p.1, D.int (p.2 : Nat))) ks = valK ((ns.zipIdx (j + 1)).map fun p => (p.1, D.int (p.2 : Nat))) ks := by simp [valK, List.find?_cons, h]
      rw [e1, ih]
      have e2 : idxOf ks (x :: ns) = idxOf ks ns + 1 := by simp [idxOf, List.findIdx_cons, h]
      have e3 : inN ks (x :: ns) = inN ks ns := by simp [inN, h]
      rw [e3, e2]
      split
      · congr 3; omega
      · rfl
theorem known_get (ks : List Key) (ns : List (List Key)) : valK (known ns) ks = if inN ks ns = true then some (.int ((idxOf ks ns : Nat))) else none := by
  have := known_find ks ns 0
  simpa [known] using this
theorem known_put (ks : List Key) (ns : List (List Key)) (h : ks ∉ ns) : putD (known ns) ks (.int (ns.length : Nat)) = known (ns ++ [ks]) := by
  have h1 : ((known ns).any fun kv => decide (kv.1 = ks)) = false := by
    rw [List.any_eq_false]
    intro p hp e
    simp only [decide_eq_true_eq] at e
    obtain ⟨q, hq, rfl⟩ := List.mem_map.mp hp
    have := (List.mem_zipIdx hq).2.2
    exact h (by rw [← e, this]; exact List.getElem_mem _)
  unfold putD
  rw [h1, if_neg Bool.false_ne_true]
  simp [known, List.zipIdx_append]
theorem dNotIn_known {m : Mem} {k : Addr} {ns : List (List Key)} {ks : List Key} {Q : QD} (h : m k = some (.dT (known ns))) : dNotIn TT (dN ks) (.ref k) m Q = Q (.bl (!inN ks ns)) m := by
  show dInB TT (dN ks) (.ref k) m (fun b => Q (.bl (!b)) m) = _
  simp only [dInB, h, keysOf_dN, Option.map_some, isSomeQ, known_get]
  cases q : inN ks ns <;> simp
theorem l_Lister___init__ {ds : List D} {m : Mem} {Q : QD} {X : XD} (h : g_Lister___init__ ds m Q X) : r_Lister___init__ (startD N_Lister___init__.length ds) m (zsOf Q X) := by
  obtain ⟨l, rfl, hl, h⟩ := h
  show r_Lister___init__ [some (.ref l)] m (zsOf Q X)
  simp only [r_Lister___init__, sSeq, sSetF, eLst, aNil, dRef, eVar, eNewT, List.getElem?_cons_zero, List.length_nil]
  refine ⟨Nat.zero_le _, fun n hn => ?_⟩
  have n1 : l ≠ n := ne_new hl hn
  rw [fldQ_ref (show mup m n (.lst []) l = some (.ins "Lister" []) by rw [mup_ne n1]; exact hl)]
  refine ⟨ffL1, by decide, fun k hk => ?_⟩
  have k1 : l ≠ k := fun e => by rw [← e, mup_same] at hk; cases hk
  have k2 : n ≠ k := fun e => by rw [← e, mup_ne n1.symm, mup_same] at hk; cases hk
  have hk0 : m k = none := by rw [mup_ne k1.symm, mup_ne k2.symm] at hk; exact hk
  rw [fldQ_ref (show mup (mup (mup m n (.lst [])) l (.ins "Lister" (putFD "nodes" (.ref n) []))) k (.dT []) l = some (.ins "Lister" [("nodes", .ref n)]) by rw [mup_ne k1, mup_same]; rfl)]
  refine ⟨ffL2, by show 1 < 1000; decide, ?_⟩
  refine h _ n k (fun a o e ne => ?_) hn hk0 ⟨?_, ?_, ?_⟩
  · rw [mup_ne ne, mup_ne (ne_new e hk0), mup_ne ne, mup_ne (ne_new e hn)]; exact e
  · rw [mup_same]; rfl
  · rw [mup_ne n1.symm, mup_ne k2, mup_ne n1.symm, mup_same]; rfl
  · rw [mup_ne k1.symm, mup_same]; rfl
theorem l_Lister_put {ds : List D} {m : Mem} {Q : QD} {X : XD} (h : g_Lister_put ds m Q X) : r_Lister_put (startD N_Lister_put.length ds) m (zsOf Q X) := by
  obtain ⟨l, n, k, ns, ks, rfl, L, hz, h⟩ := h
  show r_Lister_put [some (.ref l), some (dN ks)] m (zsOf Q X)
  have nk : n ≠ k := fun e => by have := L.nodes; rw [e, L.known] at this; cases this
  have ln : l ≠ n := fun e => by have := L.ins; rw [e, L.nodes] at this; cases this
  have lk : l ≠ k := fun e => by have := L.ins; rw [e, L.known] at this; cases this
  have hz1 : ns.length < sizeLine := by rw [sizeLine_eq]; omega
  have f1 : ∀ Q, fldG FF "known" (.ref l) m Q = Q (.ref k) m := fun Q => fldG_ref L.ins ffL2 rfl
  have f2 : ∀ Q, fldG FF "nodes" (.ref l) m Q = Q (.ref n) m := fun Q => fldG_ref L.ins ffL1 rfl
  simp only [r_Lister_put, sSeq, sIf, tOf, eBin, eFld_eq, eVar, List.getElem?_cons_zero, List.getElem?_cons_succ, f1, dNotIn_known L.known, bK]
  by_cases q : inN ks ns = true
  · refine ⟨fun e => by simp [q] at e, fun _ => ?_⟩
    simp only [sNil, sRet, eBin, eFld_eq, eVar, List.getElem?_cons_zero, List.getElem?_cons_succ, f1]
    have e1 : putN ns ks = (ns, idxOf ks ns) := if_pos q
    have := h m (fun a o e _ _ => e) (by rw [e1]; exact L)
    rw [e1] at this
    show dIx TT (.ref k) (dN ks) m Q
    simp only [dIx, L.known, keysOf_dN, Option.bind_some, known_get, if_pos q, someQ]
    exact this
  · refine ⟨fun _ => ?_, fun e => by simp [q] at e⟩
    simp only [sSetIx, eB, aCons, aNil, bLen, d1Q, eFld_eq, eVar, List.getElem?_cons_zero, List.getElem?_cons_succ, f1, f2, lenQ, L.nodes, List.length_map, dSetIx, L.known, keysOf_dN, optQ]
    refine ⟨by simp [known]; exact hz1, ?_⟩
    rw [known_put ks ns (fun e => q (inN_iff.mpr e))]
    have L1 : mup m k (.dT (known (ns ++ [ks]))) l = some (.ins "Lister" [("nodes", .ref n), ("known", .ref k)]) := by rw [mup_ne lk]; exact L.ins
    have L2' : mup m k (.dT (known (ns ++ [ks]))) n = some (.lst (ns.map dN)) := by rw [mup_ne nk]; exact L.nodes
    have f3 : ∀ Q, fldG FF "nodes" (.ref l) (mup m k (.dT (known (ns ++ [ks])))) Q = Q (.ref n) (mup m k (.dT (known (ns ++ [ks])))) := fun Q => fldG_ref L1 ffL1 rfl
    simp only [sExpr, eM, eFld_eq, eVar, aCons, aNil, List.getElem?_cons_zero, List.getElem?_cons_succ, f3, isLst, L2', mAppend, lstQ, d1Q, true_and, List.length_map]
    refine ⟨hz1, ?_⟩
    have e1 : putN ns ks = (ns ++ [ks], ns.length) := if_neg q
    have L3 : ListerAt (mup (mup m k (.dT (known (ns ++ [ks])))) n (.lst (ns.map dN ++ [dN ks]))) l n k (ns ++ [ks]) :=
      ⟨by rw [mup_ne ln]; exact L1, by rw [mup_same, List.map_append]; rfl, by rw [mup_ne nk.symm, mup_same]⟩
    have f4 : ∀ Q, fldG FF "known" (.ref l) (mup (mup m k (.dT (known (ns ++ [ks])))) n (.lst (ns.map dN ++ [dN ks]))) Q = Q (.ref k) _ := fun Q => fldG_ref L3.ins ffL2 rfl
    simp only [sRet, eBin, eFld_eq, eVar, List.getElem?_cons_zero, List.getElem?_cons_succ, f4]
    have := h (mup (mup m k (.dT (known (ns ++ [ks])))) n (.lst (ns.map dN ++ [dN ks]))) (fun a o e h1 h2 => by rw [mup_ne h1, mup_ne h2]; exact e) (by rw [e1]; exact L3)
    rw [e1] at this
    show dIx TT (.ref k) (dN ks) _ Q
    have hin : inN ks (ns ++ [ks]) = true := inN_iff.mpr (by simp)
    have hix : idxOf ks (ns ++ [ks]) = ns.length := by
      unfold idxOf
      rw [List.findIdx_append]
      have : List.findIdx (fun x => decide (x = ks)) ns = ns.length := by
        rw [List.findIdx_eq_length]
        intro x hx
        simp only [decide_eq_false_iff_not]
        exact fun e => q (inN_iff.mpr (e ▸ hx))
      rw [this]; simp
    simp only [dIx, L3.known, keysOf_dN, Option.bind_some, known_get, if_pos hin, hix, someQ]
    exact this
end L2.EV
set_option maxHeartbeats 1000000
/-! K01L5: the scanner. -/
namespace L2.EV
open PySem PySem.Spec PyProof.Rows
theorem dLe_sg {a b : Nat} {m : Mem} {Q : QD} : dLe (.str ⟨#[a]⟩) (.str ⟨#[b]⟩) m Q = Q (.bl (decide (a ≤ b))) m := by
  show Q (.bl (!decide (([b] : List Nat) < [a]))) m = _
  have e : (!decide (([b] : List Nat) < [a])) = decide (a ≤ b) := by
    rw [← decide_not]
    exact decide_eq_decide.mpr (by rw [List.cons_lt_cons_iff]; simp)
  rw [e]
theorem dEq_sg {a b : Nat} {m : Mem} {Q : QD} (ha : a < 0x110000) (hb : b < 0x110000) : dEq (.str ⟨#[a]⟩) (.str ⟨#[b]⟩) m Q = Q (.bl (decide (a = b))) m := by rw [dEq_str (sgOk a ha) (sgOk b hb), sgEq]
theorem dNe_sg {a b : Nat} {m : Mem} {Q : QD} (ha : a < 0x110000) (hb : b < 0x110000) : dNe (.str ⟨#[a]⟩) (.str ⟨#[b]⟩) m Q = Q (.bl (!decide (a = b))) m := by rw [dNe_str (sgOk a ha) (sgOk b hb), sgEq]
theorem s_sp : (" " : Str) = ⟨#[32]⟩ := by decide +kernel
theorem s_op : ("(" : Str) = ⟨#[40]⟩ := by decide +kernel
theorem s_cl : (")" : Str) = ⟨#[41]⟩ := by decide +kernel
theorem s_a : ("a" : Str) = ⟨#[97]⟩ := by decide +kernel
theorem s_z : ("z" : Str) = ⟨#[122]⟩ := by decide +kernel
theorem ixT {t : Str} {i c : Nat} {m : Mem} {Q : QD} (hz : t.length ≤ sizeLine) (h : t.cps.toList[i]? = some c) : dIx TT (.str t) (.int (i : Nat)) m Q = Q (.str ⟨#[c]⟩) m := by
  have e : atI t.cps.toList (i : Int) = some c := by rw [atI_nat]; exact h
  simp only [dIx, intQ, e, signQ, hz, true_and]
theorem log_small {k : Nat} (h : k ≤ 2000000) : (((k : Nat) : Int).natAbs.log2 < 1920) := by
  rw [Int.natAbs_natCast]
  by_cases h0 : k = 0
  · subst h0; decide
  · exact (Nat.log2_lt h0).mpr (Nat.lt_of_lt_of_le (by omega : k < 2 ^ 21) (Nat.pow_le_pow_right (by decide) (by decide)))
section
variable {t last : Str} {at_ : Nat} {m : Mem} {Q : QD} {X : XD}
theorem scan_loop (hz : t.length ≤ 1000000) (ht : PyData.strOk t = true) {here : Nat} {Z : Zs} : ∀ (j e : Nat), e + j = t.length →
    Z.nx [some (.str t), some (.int (at_ : Nat)), some (.str last), some (.int (here : Nat)), some (.int ((e + ((t.cps.toList.drop e).takeWhile isLow).length : Nat)))] m →
    whileN (tAnd (tOf (eBin dLt (eVar 4) (eB bLen (aCons (eVar 0) aNil)))) (tOf (eChain dLe dLe (eK (.str "a")) (eBin (dIx TT) (eVar 0) (eVar 4)) (eK (.str "z")))))
      (sAug 4 dIAdd (eK (.int 1))) (j + 1) [some (.str t), some (.int (at_ : Nat)), some (.str last), some (.int (here : Nat)), some (.int (e : Nat))] m Z
  | 0, e, he, h => by
    have hz1 : t.length ≤ sizeLine := by rw [sizeLine_eq]; omega
    have el : t.cps.toList.length = t.length := by rw [Array.length_toList]; rfl
    have e1 : t.cps.toList.drop e = [] := List.drop_eq_nil_of_le (by omega)
    rw [e1] at h
    simp only [whileN, tAnd, tOf, eBin, eB, aCons, aNil, eVar, bLen, d1Q, lenQ, List.getElem?_cons_zero, List.getElem?_cons_succ, dLt, bK]
    have e2 : decide ((e : Int) < (t.length : Int)) = false := decide_eq_false (by omega)
    rw [e2]
    refine ⟨hz1, fun q => (by cases q), fun _ => ?_⟩
    exact ⟨fun q => (by cases q), fun _ => h⟩
  | j + 1, e, he, h => by
    have hz1 : t.length ≤ sizeLine := by rw [sizeLine_eq]; omega
    have el : t.cps.toList.length = t.length := by rw [Array.length_toList]; rfl
    have hlt : e < t.cps.toList.length := by omega
    have hc : t.cps.toList[e]? = some (t.cps.toList[e]'hlt) := List.getElem?_eq_getElem hlt
    generalize ec : t.cps.toList[e]'hlt = c at hc
    have ed : t.cps.toList.drop e = c :: t.cps.toList.drop (e + 1) := by rw [← ec]; exact List.drop_eq_getElem_cons hlt
    rw [ed] at h
    rw [whileN]
    simp only [tAnd, tOf, eBin, eB, eK, aCons, aNil, eVar, bLen, d1Q, lenQ, List.getElem?_cons_zero, List.getElem?_cons_succ, dLt, bK]
    have e2 : decide ((e : Int) < (t.length : Int)) = true := decide_eq_true (by omega)
    rw [e2]
    refine ⟨hz1, fun _ => ?_, fun q => (by cases q)⟩
    simp only [eChain, eBin, eK, eVar, List.getElem?_cons_zero, List.getElem?_cons_succ, ixT hz1 hc, s_a, s_z, dLe_sg]
    by_cases q1 : 97 ≤ c
    · rw [decide_eq_true q1]
      simp only [dLe_sg, bK]
      by_cases q2 : c ≤ 122
      · rw [decide_eq_true q2]
        refine ⟨fun _ => ?_, fun q => (by cases q)⟩
        simp only [sAug, List.getElem?_cons_zero, List.getElem?_cons_succ, eK, dIAdd, List.set_cons_succ, List.set_cons_zero]
        refine ⟨m, Sub.refl m, ?_⟩
        have := scan_loop hz ht (here := here) (Z := Z) j (e + 1) (by omega) (by
          have hl : isLow c = true := by simp [isLow, q1, q2]
          rw [List.takeWhile_cons_of_pos hl, List.length_cons] at h
          rw [show e + 1 + (List.takeWhile isLow (List.drop (e + 1) t.cps.toList)).length = e + ((List.takeWhile isLow (List.drop (e + 1) t.cps.toList)).length + 1) by omega]
          exact h)
        exact this
      · rw [decide_eq_false q2]
        have hl : ¬ isLow c = true := by simp [isLow, q2]
        rw [List.takeWhile_cons_of_neg hl] at h
        exact ⟨fun q => (by cases q), fun _ => h⟩
    · rw [decide_eq_false q1]
      have hl : ¬ isLow c = true := by simp [isLow, q1]
      rw [List.takeWhile_cons_of_neg hl] at h
      exact ⟨fun q => (by cases q), fun _ => h⟩
theorem cut_text (hz : t.length ≤ sizeLine) {b e : Nat} (hb : b ≤ e) (he : e ≤ t.length) : dCut (.str t) (some (b : Nat)) (some (e : Nat)) m Q = Q (.str ⟨((t.cps.toList.drop b).take (e - b)).toArray⟩) m := by
  have e1 : cutS t (some (b : Nat)) (some (e : Nat)) = ⟨((t.cps.toList.drop b).take (e - b)).toArray⟩ := by
    show (⟨((t.cps.toList.drop (HT.sIx t.length 0 (some (b : Int)))).take (HT.sIx t.length t.length (some (e : Int)) - HT.sIx t.length 0 (some (b : Int)))).toArray⟩ : Str) = _
    rw [HT.sIx_nat, HT.sIx_nat, Nat.min_eq_left (by omega : b ≤ t.length), Nat.min_eq_left he]
  simp only [dCut, hz, true_and, e1]
theorem take_tw (l : List Nat) : l.take (l.takeWhile isLow).length = l.takeWhile isLow := by
  induction l with
  | nil => rfl
  | cons a l ih =>
    by_cases h : isLow a = true
    · rw [List.takeWhile_cons_of_pos h, List.length_cons, List.take_succ_cons, ih]
    · rw [List.takeWhile_cons_of_neg h]; rfl
theorem tw_len (l : List Nat) : (l.takeWhile isLow).length ≤ l.length := by
  induction l with
  | nil => exact Nat.le_refl _
  | cons a l ih =>
    by_cases h : isLow a = true
    · rw [List.takeWhile_cons_of_pos h, List.length_cons, List.length_cons]; omega
    · rw [List.takeWhile_cons_of_neg h]; exact Nat.zero_le _
def r_rest : ES := sSeq (sIf (tOf (eBin dEq (eVar 3) (eB bLen (aCons (eVar 0) aNil))))
   (sRet (eTup (aCons (eK (.str "")) (aCons (eVar 3) (aCons (eVar 3) aNil)))))
   sNil)
  (sSeq (sIf (tOf (eBin (dIn TT) (eBin (dIx TT) (eVar 0) (eVar 3)) (eK (.str "()"))))
   (sRet (eTup (aCons (eBin (dIx TT) (eVar 0) (eVar 3)) (aCons (eVar 3) (aCons (eBin dAdd (eVar 3) (eK (.int 1))) aNil)))))
   sNil)
  (sSeq (sAsg (gN 4) (eVar 3))
  (sSeq (sWhile (tAnd (tOf (eBin dLt (eVar 4) (eB bLen (aCons (eVar 0) aNil)))) (tOf (eChain dLe dLe (eK (.str "a")) (eBin (dIx TT) (eVar 0) (eVar 4)) (eK (.str "z")))))
   (sAug 4 dIAdd (eK (.int 1))))
  (sSeq (sIf (tOf (eBin dEq (eVar 4) (eVar 3)))
   (sRaise "BadText" "at" okInt (eVar 3))
   sNil)
  (sRet (eTup (aCons (eCut (eVar 0) (oSome (eVar 3)) (oSome (eVar 4))) (aCons (eVar 3) (aCons (eVar 4) aNil)))))))))
/-- how scanW's answer goes on -/
def scanE (r : Except Nat (Str × Nat × Nat)) (m : Mem) (Q : QD) (X : XD) : Prop := match r with
  | .ok (w, b, e) => Q (.tup [.str w, .int (b : Nat), .int (e : Nat)]) m
  | .error k => ∀ p, m p = none → X "BadText" (some p) (mup m p (.xd [("at", .int (k : Nat))]))
theorem in_par {c : Nat} : dIn TT (.str ⟨#[c]⟩) (.str "()") m Q = Q (.bl (decide (c = 40 ∨ c = 41))) m := by
  have e : ("()" : Str).cps.toList = [40, 41] := by decide +kernel
  show Q (.bl (decide (c ∈ ("()" : Str).cps.toList))) m = _
  rw [show decide (c ∈ ("()" : Str).cps.toList) = decide (c = 40 ∨ c = 41) from decide_eq_decide.mpr (by rw [e]; simp)]
theorem scan_rest (hz : t.length ≤ 1000000) (ht : PyData.strOk t = true) {here : Nat} (hh : here ≤ t.length) (h : scanE (scanW t.cps.toList here) m Q X) :
    r_rest [some (.str t), some (.int (at_ : Nat)), some (.str last), some (.int (here : Nat)), none] m (zsOf Q X) := by
  have hz1 : t.length ≤ sizeLine := by rw [sizeLine_eq]; omega
  have h3 : 3 ≤ sizeLine := by rw [sizeLine_eq]; decide
  have el : t.cps.toList.length = t.length := by rw [Array.length_toList]; rfl
  simp only [r_rest, sSeq, sIf, tOf, eBin, eB, aCons, aNil, eVar, bLen, d1Q, lenQ, List.getElem?_cons_zero, List.getElem?_cons_succ, dEq_int, bK]
  refine ⟨hz1, ?_⟩
  by_cases q : here = t.length
  · have e0 : t.cps.toList[here]? = none := List.getElem?_eq_none (by omega)
    have e1 : decide ((here : Int) = (t.length : Int)) = true := decide_eq_true (by omega)
    rw [e1]
    refine ⟨fun _ => ?_, fun q => (by cases q)⟩
    simp only [scanW, e0, scanE] at h
    exact ⟨h3, h⟩
  · have e1 : decide ((here : Int) = (t.length : Int)) = false := decide_eq_false (by omega)
    rw [e1]
    refine ⟨fun q => (by cases q), fun _ => ?_⟩
    have hlt : here < t.cps.toList.length := by omega
    have hc : t.cps.toList[here]? = some (t.cps.toList[here]'hlt) := List.getElem?_eq_getElem hlt
    have hcm : t.cps.toList[here]'hlt ∈ t.cps.toList := List.getElem_mem _
    generalize t.cps.toList[here]'hlt = c at hc hcm
    simp only [scanW, hc] at h
    simp only [sNil, List.getElem?_cons_zero, List.getElem?_cons_succ, ixT hz1 hc, eK, in_par, bK]
    by_cases q2 : c = 40 ∨ c = 41
    · rw [if_pos q2] at h
      rw [decide_eq_true q2]
      refine ⟨fun _ => ?_, fun q => (by cases q)⟩
      simp only [sRet, eTup, aCons, aNil, eBin, eVar, eK, List.getElem?_cons_zero, List.getElem?_cons_succ, ixT hz1 hc, dAdd]
      exact ⟨h3, h⟩
    · rw [if_neg q2] at h
      rw [decide_eq_false q2]
      refine ⟨fun q => (by cases q), fun _ => ?_⟩
      simp only [sAsg, gN, eVar, List.getElem?_cons_zero, List.getElem?_cons_succ, List.set_cons_succ, List.set_cons_zero, sWhile]
      refine ⟨_, scan_loop hz ht (t.length - here) here (by omega) ?_⟩
      have htw := tw_len (t.cps.toList.drop here)
      rw [List.length_drop] at htw
      have hw := take_tw (t.cps.toList.drop here)
      dsimp only
      generalize (t.cps.toList.drop here).takeWhile isLow = w at h htw hw
      simp only [List.getElem?_cons_zero, List.getElem?_cons_succ, dEq_int, bK]
      by_cases q3 : w = []
      · rw [if_pos q3] at h
        subst q3
        have e2 : decide (((here + ([] : List Nat).length : Nat) : Int) = (here : Int)) = true := decide_eq_true (by simp)
        rw [e2]
        refine ⟨fun _ => ?_, fun q => (by cases q)⟩
        simp only [sRaise, eVar, List.getElem?_cons_zero, List.getElem?_cons_succ]
        exact ⟨log_small (by omega), h⟩
      · rw [if_neg q3] at h
        have hwl : 0 < w.length := List.length_pos_iff.mpr q3
        have e2 : decide (((here + w.length : Nat) : Int) = (here : Int)) = false := decide_eq_false (by omega)
        rw [e2]
        refine ⟨fun q => (by cases q), fun _ => ?_⟩
        simp only [sRet, eTup, aCons, aNil, eCut, oSome, intQ, eVar, List.getElem?_cons_zero, List.getElem?_cons_succ]
        have hc2 : ∀ R : QD, dCut (.str t) (some (here : Int)) (some ((here + w.length : Nat) : Int)) m R = R (.str ⟨w.toArray⟩) m := fun R => by
          rw [cut_text hz1 (by omega) (by omega), show here + w.length - here = w.length by omega, hw]
        rw [hc2]
        exact ⟨h3, h⟩
theorem notin_last (hl : PyData.strOk last = true) : dNotIn TT (.str last) (.tup [.str "", .str "("]) m Q = Q (.bl (!decide (last = "" ∨ last = "("))) m := by
  have o1 : PyData.strOk "" = true := by decide +kernel
  have o2 : PyData.strOk "(" = true := by decide +kernel
  show dInB TT (.str last) (.tup [.str "", .str "("]) m (fun b => Q (.bl (!b)) m) = _
  have e1 : inOk (.str last) [.str "", .str "("] := ⟨⟨hl, by show 0 ≤ 60; decide⟩, by simp only [plains, plain, Bool.and_true, Bool.and_eq_true]; exact ⟨o1, o2⟩, by show max 0 (max 0 0) ≤ 59; decide⟩
  have e2 : inD (.str last) [.str "", .str "("] = decide (last = "" ∨ last = "(") := by
    simp only [inD, List.any_cons, List.any_nil, Bool.or_false, eqD]
    rw [Bool.eq_iff_iff]
    simp only [Bool.or_eq_true, beq_iff_eq, decide_eq_true_eq]
    exact ⟨fun h => h.imp Eq.symm Eq.symm, fun h => h.imp Eq.symm Eq.symm⟩
  simp only [dInB, e1, true_and, e2]
theorem l_scanned {ds : List D} (h : g_scanned ds m Q X) : r_scanned (startD N_scanned.length ds) m (zsOf Q X) := by
  obtain ⟨t, at_, last, rfl, hat, hz, ht, hlast, h⟩ := h
  show r_scanned [some (.str t), some (.int (at_ : Nat)), some (.str last), none, none] m (zsOf Q X)
  have hz1 : t.length ≤ sizeLine := by rw [sizeLine_eq]; omega
  have h2 : 2 ≤ sizeLine := by rw [sizeLine_eq]; decide
  have el : t.cps.toList.length = t.length := by rw [Array.length_toList]; rfl
  have h : scanE (scanF t.cps.toList at_ last) m Q X := h
  have rest : ∀ here, here ≤ t.length → scanF t.cps.toList at_ last = scanW t.cps.toList here → r_rest [some (.str t), some (.int (at_ : Nat)), some (.str last), some (.int (here : Nat)), none] m (zsOf Q X) := fun here hh e => scan_rest hz ht hh (by rw [← e]; exact h)
  have bad : ∀ k, k ≤ t.length → scanF t.cps.toList at_ last = .error k → sRaise "BadText" "at" okInt (eVar 3) [some (.str t), some (.int (at_ : Nat)), some (.str last), some (.int (k : Nat)), none] m (zsOf Q X) := fun k hk e => by
    rw [e] at h
    simp only [sRaise, eVar, List.getElem?_cons_zero, List.getElem?_cons_succ]
    exact ⟨log_small (by omega), h⟩
  have hr : r_scanned = sSeq (sAsg (gN 3) (eVar 1)) (sSeq (sIf (tAnd (tOf (eBin (dNotIn TT) (eVar 2) (eTup (aCons (eK (.str "")) (aCons (eK (.str "(")) aNil))))) (tOf (eBin dLt (eVar 3) (eB bLen (aCons (eVar 0) aNil)))))
     (sIf (tOf (eBin dEq (eBin (dIx TT) (eVar 0) (eVar 3)) (eK (.str " "))))
      (sSeq (sAug 3 dIAdd (eK (.int 1)))
      (sIf (tOr (tOf (eBin dEq (eVar 3) (eB bLen (aCons (eVar 0) aNil)))) (tOf (eBin dEq (eBin (dIx TT) (eVar 0) (eVar 3)) (eK (.str ")")))))
       (sRaise "BadText" "at" okInt (eVar 3))
       sNil))
      (sIf (tOf (eBin dNe (eBin (dIx TT) (eVar 0) (eVar 3)) (eK (.str ")"))))
       (sRaise "BadText" "at" okInt (eVar 3))
       sNil))
     sNil) r_rest) := rfl
  rw [hr]
  simp only [sSeq, sAsg, gN, sIf, tAnd, tOf, eBin, eTup, eB, eK, aCons, aNil, eVar, bLen, d1Q, lenQ, List.getElem?_cons_zero, List.getElem?_cons_succ, List.set_cons_succ, List.set_cons_zero, notin_last hlast, bK, dLt]
  refine ⟨h2, fun q => ?_, fun q => ?_⟩
  · -- a word stands ahead
    have hl : ¬ (last = "" ∨ last = "(") := by simpa using q
    have sf : scanF t.cps.toList at_ last = (match t.cps.toList[at_]? with
        | none => scanW t.cps.toList at_
        | some 32 => (match t.cps.toList[at_ + 1]? with
          | none => .error (at_ + 1)
          | some 41 => .error (at_ + 1)
          | _ => scanW t.cps.toList (at_ + 1))
        | some 41 => scanW t.cps.toList at_
        | _ => .error at_) := if_neg hl
    refine ⟨hz1, ?_⟩
    by_cases q1 : at_ < t.length
    · rw [decide_eq_true (by omega : (at_ : Int) < (t.length : Int))]
      refine ⟨fun _ => ?_, fun q => (by cases q)⟩
      have hlt : at_ < t.cps.toList.length := by omega
      have hc : t.cps.toList[at_]? = some (t.cps.toList[at_]'hlt) := List.getElem?_eq_getElem hlt
      have hcm := form_sg ht (List.getElem_mem hlt)
      generalize t.cps.toList[at_]'hlt = c at hc hcm
      rw [hc] at sf
      simp only [ixT hz1 hc, s_sp, s_cl, dEq_sg hcm (by decide : 32 < 0x110000), dNe_sg hcm (by decide : 41 < 0x110000), bK]
      by_cases q2 : c = 32
      · subst q2
        refine ⟨fun _ => ?_, fun q => absurd q (by decide)⟩
        simp only [sAug, eK, dIAdd, List.getElem?_cons_zero, List.getElem?_cons_succ, List.set_cons_succ, List.set_cons_zero, sIf, tOr, tOf, eBin, eVar, eB, aCons, aNil, bLen, d1Q, lenQ, dEq_int, bK]
        refine ⟨hz1, ?_⟩
        have ea : ((at_ : Int) + 1) = ((at_ + 1 : Nat) : Int) := by omega
        rw [ea]
        by_cases q3 : at_ + 1 = t.length
        · have e0 : t.cps.toList[at_ + 1]? = none := List.getElem?_eq_none (by omega)
          rw [decide_eq_true (by omega : ((at_ + 1 : Nat) : Int) = (t.length : Int))]
          refine ⟨fun _ => ⟨fun _ => bad (at_ + 1) (by omega) (by rw [sf]; simp only [e0]), fun q => (by cases q)⟩, fun q => (by cases q)⟩
        · rw [decide_eq_false (by omega : ¬ ((at_ + 1 : Nat) : Int) = (t.length : Int))]
          refine ⟨fun q => (by cases q), fun _ => ?_⟩
          have hlt2 : at_ + 1 < t.cps.toList.length := by omega
          have hc2 : t.cps.toList[at_ + 1]? = some (t.cps.toList[at_ + 1]'hlt2) := List.getElem?_eq_getElem hlt2
          have hcm2 := form_sg ht (List.getElem_mem hlt2)
          generalize t.cps.toList[at_ + 1]'hlt2 = c2 at hc2 hcm2
          rw [hc2] at sf
          rw [ixT hz1 hc2, dEq_sg hcm2 (by decide : 41 < 0x110000)]
          by_cases q4 : c2 = 41
          · subst q4
            exact ⟨fun _ => bad (at_ + 1) (by omega) sf, fun q => absurd q (by decide)⟩
          · refine ⟨fun q => (by simp [q4] at q), fun _ => ?_⟩
            exact rest (at_ + 1) (by omega) (by rw [sf]; split <;> simp_all)
      · refine ⟨fun q => (by simp [q2] at q), fun _ => ?_⟩
        by_cases q3 : c = 41
        · subst q3
          exact ⟨fun q => absurd q (by decide), fun _ => rest at_ hat sf⟩
        · exact ⟨fun _ => bad at_ hat (by rw [sf]; split <;> simp_all), fun q => (by simp [q3] at q)⟩
    · rw [decide_eq_false (by omega : ¬ (at_ : Int) < (t.length : Int))]
      refine ⟨fun q => (by cases q), fun _ => ?_⟩
      have e0 : t.cps.toList[at_]? = none := List.getElem?_eq_none (by omega)
      exact rest at_ hat (by rw [sf, e0])
  · have hl : last = "" ∨ last = "(" := by
      rw [Bool.not_eq_false'] at q
      exact of_decide_eq_true q
    exact ⟨fun q => (by cases q), fun _ => rest at_ hat (if_pos hl)⟩
end
end L2.EV
set_option maxHeartbeats 1000000
/-! K01L6: the reader of sayings. -/
namespace L2.EV
open PySem PySem.Spec PyProof.Rows
theorem ffV1 : ("operands" : Str) ∈ FF "Level" := by decide +kernel
theorem ffV2 : ("joins" : Str) ∈ FF "Level" := by decide +kernel
theorem ffV3 : ("nots" : Str) ∈ FF "Level" := by decide +kernel
theorem l_Level___init__ {ds : List D} {m : Mem} {Q : QD} {X : XD} (h : g_Level___init__ ds m Q X) : r_Level___init__ (startD N_Level___init__.length ds) m (zsOf Q X) := by
  obtain ⟨l, rfl, hl, h⟩ := h
  show r_Level___init__ [some (.ref l)] m (zsOf Q X)
  simp only [r_Level___init__, sSeq, sSetF, eLst, aNil, dRef, eVar, eK, List.getElem?_cons_zero, List.length_nil]
  refine ⟨Nat.zero_le _, fun n hn => ?_⟩
  have n1 : l ≠ n := ne_new hl hn
  rw [fldQ_ref (show mup m n (.lst []) l = some (.ins "Level" []) by rw [mup_ne n1]; exact hl)]
  refine ⟨ffV1, by show 0 < 1000; decide, Nat.zero_le _, fun k hk => ?_⟩
  have k1 : l ≠ k := fun e => by rw [← e, mup_same] at hk; cases hk
  have k2 : n ≠ k := fun e => by rw [← e, mup_ne n1.symm, mup_same] at hk; cases hk
  have hk0 : m k = none := by rw [mup_ne k1.symm, mup_ne k2.symm] at hk; exact hk
  rw [fldQ_ref (show mup (mup (mup m n (.lst [])) l (.ins "Level" (putFD "operands" (.ref n) []))) k (.lst []) l = some (.ins "Level" [("operands", .ref n)]) by rw [mup_ne k1, mup_same]; rfl)]
  refine ⟨ffV2, by show 1 < 1000; decide, ?_⟩
  rw [fldQ_ref (mup_same)]
  refine ⟨ffV3, by show 2 < 1000; decide, ?_⟩
  rw [mup_mup]
  refine h _ n k (fun a o e ne => ?_) hn hk0 k2 ⟨?_, ?_, ?_⟩
  · rw [mup_ne ne, mup_ne (ne_new e hk0), mup_ne ne, mup_ne (ne_new e hn)]; exact e
  · rw [mup_same]; rfl
  · rw [mup_ne n1.symm, mup_ne k2, mup_ne n1.symm, mup_same]; rfl
  · rw [mup_ne k1.symm, mup_same]; rfl
theorem AllAt.keep {m m' : Mem} : ∀ {as : List LA} {Ls : List Lv}, AllAt m as Ls → (∀ b ∈ as, ∀ c, c = b.1 ∨ c = b.2.1 ∨ c = b.2.2 → ∀ o, m c = some o → m' c = some o) → AllAt m' as Ls
  | [], [], _, _ => trivial
  | a :: as, L :: Ls, h, k => ⟨⟨k a (List.mem_cons_self ..) _ (.inl rfl) _ h.1.ins, k a (List.mem_cons_self ..) _ (.inr (.inl rfl)) _ h.1.ops, k a (List.mem_cons_self ..) _ (.inr (.inr rfl)) _ h.1.joins⟩, AllAt.keep h.2 fun b hb => k b (List.mem_cons_of_mem _ hb)⟩
  | [], _ :: _, h, _ => h.elim
  | _ :: _, [], h, _ => h.elim
theorem AllAt.mem {m : Mem} : ∀ {as : List LA} {Ls : List Lv}, AllAt m as Ls → ∀ b ∈ as, ∃ L, LvAt m b L
  | [], [], _, b, hb => by cases hb
  | a :: as, L :: Ls, h, b, hb => by
    rcases List.mem_cons.mp hb with rfl | hb
    · exact ⟨L, h.1⟩
    · exact AllAt.mem h.2 b hb
  | [], _ :: _, h, _, _ => h.elim
  | _ :: _, [], h, _, _ => h.elim
theorem AllAt.length {m : Mem} : ∀ {as : List LA} {Ls : List Lv}, AllAt m as Ls → as.length = Ls.length
  | [], [], _ => rfl
  | _ :: as, _ :: Ls, h => by rw [List.length_cons, List.length_cons, AllAt.length h.2]
  | [], _ :: _, h => h.elim
  | _ :: _, [], h => h.elim
theorem AllAt.un {m : Mem} {as : List LA} {L : Lv} {Ls : List Lv} (h : AllAt m as (L :: Ls)) : ∃ a as', as = a :: as' ∧ LvAt m a L ∧ AllAt m as' Ls := by
  cases as with
  | nil => exact h.elim
  | cons a as => exact ⟨a, as, rfl, h.1, h.2⟩
theorem ne_kind {m : Mem} {a b : Addr} {o u : MO} (h : m a = some o) (k : m b = some u) (d : o ≠ u) : a ≠ b := fun e => d (by rw [e, k] at h; exact (Option.some.inj h).symm)
/-- the top level, the lister, the reader's own fields changed -/
theorem RdAt.step {m m' : Mem} {A : RA'} {R R' : Rd} {a : LA} {as : List LA} {L L' : Lv} {Ls : List Lv} (h : RdAt m A R) (hA : A.la = a :: as) (hL : R.lvs = L :: Ls) (hR' : R'.lvs = L' :: Ls)
    (fr : ∀ c o, m c = some o → c ≠ A.r → c ≠ A.n → c ≠ A.k → c ≠ a.1 → c ≠ a.2.1 → c ≠ a.2.2 → m' c = some o)
    (ins : m' A.r = some (.ins "SayingReader" [("letters", .str R'.letters), ("lister", .ref A.l), ("levels", .ref A.v), ("awaited", .str R'.aw), ("begun", dN R'.begun), ("opened", .int (R'.opened : Nat))]))
    (lis : ListerAt m' A.l A.n A.k R'.ns) (top : LvAt m' a L') : RdAt m' A R' := by
  have hall := h.all
  rw [hA, hL] at hall
  have sep := h.sep
  simp only [lists, hA, List.flatMap_cons] at sep
  have sepL := h.sepL
  rw [hA, List.map_cons] at sepL
  have lv := h.lev
  refine ⟨ins, lis, ?_, ?_, h.sep, h.sepL⟩
  · refine fr _ _ h.lev (ne_kind h.lev h.ins (fun z => by cases z)) (fun z => ?_) (ne_kind h.lev h.lis.known (fun z => by cases z)) (ne_kind h.lev hall.1.ins (fun z => by cases z)) (fun z => ?_) (fun z => ?_)
    · have := (List.nodup_cons.mp sep).1
      exact this (by rw [← z]; simp)
    · have := (List.nodup_cons.mp (List.nodup_cons.mp sep).2).1
      exact this (by rw [z]; simp)
    · have := (List.nodup_cons.mp (List.nodup_cons.mp sep).2).1
      exact this (by rw [z]; simp)
  · rw [hA, hR']
    refine ⟨top, hall.2.keep fun b hb c hc o ho => ?_⟩
    obtain ⟨Lb, hLb⟩ := hall.2.mem b hb
    have hmem1 : b.2.1 ∈ as.flatMap fun a => [a.2.1, a.2.2] := List.mem_flatMap.mpr ⟨b, hb, by simp⟩
    have hmem2 : b.2.2 ∈ as.flatMap fun a => [a.2.1, a.2.2] := List.mem_flatMap.mpr ⟨b, hb, by simp⟩
    have s1 := (List.nodup_cons.mp sep).1
    have s2 := (List.nodup_cons.mp (List.nodup_cons.mp sep).2).2
    have s3 : a.2.1 ∉ a.2.2 :: as.flatMap fun a => [a.2.1, a.2.2] := (List.nodup_cons.mp s2).1
    have s4 : a.2.2 ∉ as.flatMap fun a => [a.2.1, a.2.2] := (List.nodup_cons.mp (List.nodup_cons.mp s2).2).1
    rcases hc with rfl | rfl | rfl
    · refine fr _ _ ho (ne_kind hLb.ins h.ins (fun z => ?_)) (ne_kind hLb.ins h.lis.nodes (fun z => by cases z)) (ne_kind hLb.ins h.lis.known (fun z => by cases z)) (fun z => ?_) (ne_kind hLb.ins hall.1.ops (fun z => by cases z)) (ne_kind hLb.ins hall.1.joins (fun z => by cases z))
      · exact absurd (MO.ins.inj z).1 (by decide +kernel)
      · exact (List.nodup_cons.mp sepL).1 (by rw [← z]; exact List.mem_map_of_mem hb)
    · refine fr _ _ ho (ne_kind hLb.ops h.ins (fun z => by cases z)) (fun z => ?_) (ne_kind hLb.ops h.lis.known (fun z => by cases z)) (ne_kind hLb.ops hall.1.ins (fun z => by cases z)) (fun z => ?_) (fun z => ?_)
      · exact s1 (by rw [← z]; simp only [List.mem_cons, List.mem_append]; exact .inr (.inr hmem1))
      · exact s3 (by rw [← z]; exact List.mem_cons_of_mem _ hmem1)
      · exact s4 (by rw [← z]; exact hmem1)
    · refine fr _ _ ho (ne_kind hLb.joins h.ins (fun z => by cases z)) (fun z => ?_) (ne_kind hLb.joins h.lis.known (fun z => by cases z)) (ne_kind hLb.joins hall.1.ins (fun z => by cases z)) (fun z => ?_) (fun z => ?_)
      · exact s1 (by rw [← z]; simp only [List.mem_cons, List.mem_append]; exact .inr (.inr hmem2))
      · exact s3 (by rw [← z]; exact List.mem_cons_of_mem _ hmem2)
      · exact s4 (by rw [← z]; exact hmem2)
theorem ffS1 : ("lister" : Str) ∈ FF "SayingReader" := by decide +kernel
theorem ffS2 : ("levels" : Str) ∈ FF "SayingReader" := by decide +kernel
theorem ffS3 : ("awaited" : Str) ∈ FF "SayingReader" := by decide +kernel
theorem ffS4 : ("begun" : Str) ∈ FF "SayingReader" := by decide +kernel
theorem ffS5 : ("opened" : Str) ∈ FF "SayingReader" := by decide +kernel
theorem ffS6 : ("letters" : Str) ∈ FF "SayingReader" := by decide +kernel
theorem Frm.trans {A : RA'} {m1 m2 m3 : Mem} (h : Frm A m1 m2) (k : Frm A m2 m3) : Frm A m1 m3 := fun a o e n => k a o (h a o e n) n
theorem Frm.refl {A : RA'} (m : Mem) : Frm A m m := fun _ _ e _ => e
theorem fp_r {A : RA'} : A.r ∈ fpA A := List.mem_cons_self ..
theorem fp_n {A : RA'} : A.n ∈ fpA A := by simp [fpA, lists]
theorem fp_k {A : RA'} : A.k ∈ fpA A := by simp [fpA]
theorem fp_a {A : RA'} {a : LA} (h : a ∈ A.la) : a.1 ∈ fpA A ∧ a.2.1 ∈ fpA A ∧ a.2.2 ∈ fpA A := by
  refine ⟨?_, ?_, ?_⟩ <;> simp only [fpA, lists, List.mem_cons, List.mem_append, List.mem_map, List.mem_flatMap]
  · exact .inr (.inr (.inr (.inr ⟨a, h, rfl⟩)))
  · exact .inr (.inr (.inr (.inl (.inr (.inr ⟨a, h, by simp⟩)))))
  · exact .inr (.inr (.inr (.inl (.inr (.inr ⟨a, h, by simp⟩)))))
theorem l_SayingReader_may_end {ds : List D} {m : Mem} {Q : QD} {X : XD} (h : g_SayingReader_may_end ds m Q X) : r_SayingReader_may_end (startD N_SayingReader_may_end.length ds) m (zsOf Q X) := by
  obtain ⟨A, R, rfl, I, ha, h⟩ := h
  show r_SayingReader_may_end [some (.ref A.r)] m (zsOf Q X)
  have sj : PyData.strOk "join" = true := by decide +kernel
  have f1 : ∀ Q, fldG FF "awaited" (.ref A.r) m Q = Q (.str R.aw) m := fun Q => fldG_ref I.ins ffS3 rfl
  have f2 : ∀ Q, fldG FF "levels" (.ref A.r) m Q = Q (.ref A.v) m := fun Q => fldG_ref I.ins ffS2 rfl
  simp only [r_SayingReader_may_end, sRet, eAnd, eBin, eB, eK, aCons, aNil, eFld_eq, eVar, List.getElem?_cons_zero, f1, f2, dEq_str ha sj, bLen, d1Q, lenQ, I.lev, dEq_int]
  have hl : R.lvs.length = A.la.length := I.all.length.symm
  by_cases q : R.aw = "join"
  · rw [decide_eq_true q] at h ⊢
    rw [Bool.true_and, hl] at h
    have e : decide (((A.la.map fun a => D.ref a.1).reverse.length : Int) = 1) = decide (A.la.length = 1) := by
      rw [List.length_reverse, List.length_map]
      exact decide_eq_decide.mpr (by omega)
    rw [e]
    exact h
  · rw [decide_eq_false q] at h ⊢
    rw [Bool.false_and] at h
    exact h
theorem optQ_some' {α : Type} {x : α} {f : α → Prop} : optQ (some x) f = f x := rfl
/-- one turn of the words not -/
theorem fin_loop {A : RA'} {X : XD} {Q : QD} {m0 : Mem} {Z : Zs} : ∀ (c : Nat) (m : Mem) (R : Rd) (i : Nat) (L : Lv) (Ls : List Lv) (a : LA) (as : List LA), A.la = a :: as → RdAt m A R → R.lvs = L :: Ls → L.nots = c → c ≤ R.opened → R.ns.length + c < 1000000 → Frm A m0 m →
    (∀ m', Frm A m0 m' → RdAt m' A { R with ns := (notsS c R.ns i).1, lvs := { L with nots := 0 } :: Ls, opened := R.opened - c } → Z.nx [some (.ref A.r), some (dI (notsS c R.ns i).2), some (.ref a.1)] m') →
    whileN (tOf (eBin dGt (eFld FF "nots" (eVar 2)) (eK (.int 0))))
     (sSeq (sAsg (gN 1) (eMeth "Lister" "put" g_Lister_put [] (eFld FF "lister" (eVar 0)) (aCons (eTup (aCons (eK (.str "not")) (aCons (eVar 1) aNil))) aNil)))
     (sSeq (sAugF FF "nots" dSub (eVar 2) (eK (.int 1)))
     (sAugF FF "opened" dSub (eVar 0) (eK (.int 1))))) (c + 1) [some (.ref A.r), some (dI i), some (.ref a.1)] m Z
  | 0, m, R, i, L, Ls, a, as, hA, I, hL, hc, ho, hz, fr, hf => by
    have hall := I.all
    rw [hA, hL] at hall
    have f1 : ∀ Q, fldG FF "nots" (.ref a.1) m Q = Q (.int (L.nots : Nat)) m := fun Q => fldG_ref hall.1.ins ffV3 rfl
    simp only [whileN, tOf, eBin, eFld_eq, eVar, eK, List.getElem?_cons_zero, List.getElem?_cons_succ, f1, dGt, bK, hc]
    refine ⟨fun q => absurd q (by decide), fun _ => hf m fr ?_⟩
    have e : ({ R with ns := (notsS 0 R.ns i).1, lvs := { L with nots := 0 } :: Ls, opened := R.opened - 0 } : Rd) = R := by
      obtain ⟨r1, r2, r3, r4, r5, r6⟩ := R
      obtain ⟨l1, l2, l3⟩ := L
      have hL' : r3 = ⟨l1, l2, l3⟩ :: Ls := hL
      have hc' : l3 = 0 := hc
      subst hL' hc'
      rfl
    rw [e]; exact I
  | c + 1, m, R, i, L, Ls, a, as, hA, I, hL, hc, ho, hz, fr, hf => by
    have hall := I.all
    rw [hA, hL] at hall
    have f1 : ∀ Q, fldG FF "nots" (.ref a.1) m Q = Q (.int (L.nots : Nat)) m := fun Q => fldG_ref hall.1.ins ffV3 rfl
    have f2 : ∀ Q, fldG FF "lister" (.ref A.r) m Q = Q (.ref A.l) m := fun Q => fldG_ref I.ins ffS1 rfl
    have h2 : 2 ≤ sizeLine := by rw [sizeLine_eq]; decide
    rw [whileN]
    simp only [tOf, eBin, eFld_eq, eVar, eK, List.getElem?_cons_zero, List.getElem?_cons_succ, f1, dGt, bK, hc]
    refine ⟨fun _ => ?_, fun q => absurd q (by rw [decide_eq_true (by omega : (0 : Int) < ((c + 1 : Nat) : Int))]; decide)⟩
    simp only [sSeq, sAsg, eMeth, eFld_eq, eVar, List.getElem?_cons_zero, List.getElem?_cons_succ, f2, insQ_ref I.lis.ins]
    refine ⟨rfl, ?_⟩
    simp only [aCons, aNil, eTup, eK, eVar, List.getElem?_cons_zero, List.getElem?_cons_succ, List.append_nil]
    refine ⟨h2, A.l, A.n, A.k, R.ns, [.inr "not", .inl (i : Nat)], rfl, I.lis, by omega, fun m1 fr1 L1 => ?_⟩
    have an : a.1 ≠ A.n := ne_kind hall.1.ins I.lis.nodes (fun z => by cases z)
    have ak : a.1 ≠ A.k := ne_kind hall.1.ins I.lis.known (fun z => by cases z)
    have rn : A.r ≠ A.n := ne_kind I.ins I.lis.nodes (fun z => by cases z)
    have rk : A.r ≠ A.k := ne_kind I.ins I.lis.known (fun z => by cases z)
    have ra : A.r ≠ a.1 := ne_kind I.ins hall.1.ins (fun z => absurd (MO.ins.inj z).1 (by decide +kernel))
    have la : A.l ≠ a.1 := ne_kind I.lis.ins hall.1.ins (fun z => absurd (MO.ins.inj z).1 (by decide +kernel))
    have lr : A.l ≠ A.r := ne_kind I.lis.ins I.ins (fun z => absurd (MO.ins.inj z).1 (by decide +kernel))
    have oa : a.2.1 ≠ a.1 := ne_kind hall.1.ops hall.1.ins (fun z => by cases z)
    have or' : a.2.1 ≠ A.r := ne_kind hall.1.ops I.ins (fun z => by cases z)
    have ja : a.2.2 ≠ a.1 := ne_kind hall.1.joins hall.1.ins (fun z => by cases z)
    have jr : a.2.2 ≠ A.r := ne_kind hall.1.joins I.ins (fun z => by cases z)
    have sep := I.sep
    simp only [lists, hA, List.flatMap_cons] at sep
    have on : a.2.1 ≠ A.n := fun z => (List.nodup_cons.mp sep).1 (by rw [← z]; simp)
    have jn : a.2.2 ≠ A.n := fun z => (List.nodup_cons.mp sep).1 (by rw [← z]; simp)
    have ok' : a.2.1 ≠ A.k := ne_kind hall.1.ops I.lis.known (fun z => by cases z)
    have jk : a.2.2 ≠ A.k := ne_kind hall.1.joins I.lis.known (fun z => by cases z)
    have i1 := fr1 _ _ hall.1.ins an ak
    have i2 := fr1 _ _ I.ins rn rk
    simp only [gN, List.set_cons_succ, List.set_cons_zero, sAugF, eVar, eK, List.getElem?_cons_zero, List.getElem?_cons_succ]
    rw [fldQ_ref i1]
    refine ⟨ffV3, ?_⟩
    show optQ (some (D.int (L.nots : Nat))) _
    rw [optQ_some']
    simp only [dSub]
    rw [fldQ_ref i1]
    refine ⟨ffV3, rfl, by show 3 < 1000; decide, ?_⟩
    have i3 : mup m1 a.1 (.ins "Level" (putFD "nots" (.int ((L.nots : Int) - 1)) [("operands", .ref a.2.1), ("joins", .ref a.2.2), ("nots", .int (L.nots : Nat))])) A.r = m1 A.r := mup_ne ra
    rw [i2] at i3
    rw [fldQ_ref i3]
    refine ⟨ffS5, ?_⟩
    show optQ (some (D.int (R.opened : Nat))) _
    rw [optQ_some']
    simp only [dSub]
    rw [fldQ_ref i3]
    refine ⟨ffS5, rfl, by show 6 < 1000; decide, ?_⟩
    refine ⟨_, Sub.refl _, ?_⟩
    have en : ((L.nots : Int) - 1) = ((c : Nat) : Int) := by omega
    have eo : ((R.opened : Int) - 1) = ((R.opened - 1 : Nat) : Int) := by omega
    have I2 : RdAt (mup (mup m1 a.1 (.ins "Level" (putFD "nots" (.int ((L.nots : Int) - 1)) [("operands", .ref a.2.1), ("joins", .ref a.2.2), ("nots", .int (L.nots : Nat))]))) A.r (.ins "SayingReader" (putFD "opened" (.int ((R.opened : Int) - 1)) [("letters", .str R.letters), ("lister", .ref A.l), ("levels", .ref A.v), ("awaited", .str R.aw), ("begun", dN R.begun), ("opened", .int (R.opened : Nat))]))) A
        { R with ns := (putN R.ns [.inr "not", .inl (i : Nat)]).1, lvs := { L with nots := c } :: Ls, opened := R.opened - 1 } := by
      refine I.step hA hL rfl (fun b o e h1 h2 h3 h4 h5 h6 => ?_) ?_ ⟨?_, ?_, ?_⟩ ⟨?_, ?_, ?_⟩
      · rw [mup_ne h1, mup_ne h4]; exact fr1 b o e h2 h3
      · rw [mup_same, eo]; rfl
      · rw [mup_ne lr, mup_ne la]; exact L1.ins
      · rw [mup_ne rn.symm, mup_ne an.symm]; exact L1.nodes
      · rw [mup_ne rk.symm, mup_ne ak.symm]; exact L1.known
      · rw [mup_ne ra.symm, mup_same, en]; rfl
      · rw [mup_ne or', mup_ne oa]; exact fr1 _ _ hall.1.ops on ok'
      · rw [mup_ne jr, mup_ne ja]; exact fr1 _ _ hall.1.joins jn jk
    have hlen : (putN R.ns [.inr "not", .inl (i : Nat)]).1.length ≤ R.ns.length + 1 := by
      unfold putN; split
      · exact Nat.le_succ _
      · simp
    have ina : a ∈ A.la := by rw [hA]; exact List.mem_cons_self ..
    refine fin_loop (X := X) (Q := Q) (m0 := m0) c _ _ _ _ Ls a as hA I2 rfl rfl (by show c ≤ R.opened - 1; omega) (by show (putN R.ns [.inr "not", .inl (i : Nat)]).1.length + c < 1000000; omega) (fr.trans fun b o e nb => ?_) fun m' fr' I' => hf m' fr' ?_
    · rw [mup_ne (fun z => nb (by rw [z]; exact fp_r)), mup_ne (fun z => nb (by rw [z]; exact (fp_a ina).1))]
      exact fr1 b o e (fun z => nb (by rw [z]; exact fp_n)) (fun z => nb (by rw [z]; exact fp_k))
    · have e : R.opened - 1 - c = R.opened - (c + 1) := by omega
      rw [← e]
      exact I'
theorem l_SayingReader_finish {ds : List D} {m : Mem} {Q : QD} {X : XD} (h : g_SayingReader_finish ds m Q X) : r_SayingReader_finish (startD N_SayingReader_finish.length ds) m (zsOf Q X) := by
  obtain ⟨A, R, i, L, Ls, rfl, I, hL, ho, hz, hops, h⟩ := h
  show r_SayingReader_finish [some (.ref A.r), some (dI i), none] m (zsOf Q X)
  have hall := I.all
  rw [hL] at hall
  obtain ⟨a, as, hA, hla, hls⟩ := hall.un
  have f1 : ∀ Q, fldG FF "levels" (.ref A.r) m Q = Q (.ref A.v) m := fun Q => fldG_ref I.ins ffS2 rfl
  have hlev : m A.v = some (.lst ((as.map fun a => D.ref a.1).reverse ++ [.ref a.1])) := by rw [I.lev, hA, List.map_cons, List.reverse_cons]
  have ina : a ∈ A.la := by rw [hA]; exact List.mem_cons_self ..
  simp only [r_SayingReader_finish, sSeq, sAsg, gN, eBin, eUn, dNeg, eK, eFld_eq, eVar, List.getElem?_cons_zero, List.getElem?_cons_succ, f1]
  have ix : ∀ Q : QD, dIx TT (.ref A.v) (.int (-1)) m Q = Q (.ref a.1) m := fun Q => by simp only [dIx, hlev, intQ, atI_last, someQ]
  rw [ix]
  simp only [List.set_cons_succ, List.set_cons_zero]
  refine ⟨_, fin_loop (X := X) (Q := Q) (m0 := m) L.nots m R i L Ls a as hA I hL rfl ho hz (Frm.refl m) fun m1 fr1 I1 => ?_⟩
  have hall1 := I1.all
  rw [hA] at hall1
  have hall1 : LvAt m1 a { L with nots := 0 } ∧ AllAt m1 as Ls := hall1
  have f2 : ∀ Q, fldG FF "operands" (.ref a.1) m1 Q = Q (.ref a.2.1) m1 := fun Q => fldG_ref hall1.1.ins ffV1 rfl
  simp only [sExpr, eM, eFld_eq, eVar, aCons, aNil, List.getElem?_cons_zero, List.getElem?_cons_succ, f2, isLst, hall1.1.ops, mAppend, lstQ, d1Q, true_and]
  refine ⟨by rw [List.length_reverse, List.length_map, sizeLine_eq]; show L.ops.length < _; omega, ?_⟩
  have ro : A.r ≠ a.2.1 := ne_kind I1.ins hall1.1.ops (fun z => by cases z)
  have i2 : mup m1 a.2.1 (.lst ((L.ops.map dI).reverse ++ [dI (notsS L.nots R.ns i).2])) A.r = m1 A.r := mup_ne ro
  rw [I1.ins] at i2
  simp only [sSetF, eK, eVar, List.getElem?_cons_zero]
  rw [fldQ_ref i2]
  refine ⟨ffS3, by show 6 < 1000; decide, ?_⟩
  refine h _ (fr1.trans fun b o e nb => ?_) ?_
  · rw [mup_ne (fun z => nb (by rw [z]; exact fp_r)), mup_ne (fun z => nb (by rw [z]; exact (fp_a ina).2.1))]; exact e
  · have sep := I.sep
    simp only [lists, hA, List.flatMap_cons] at sep
    have on : a.2.1 ≠ A.n := fun z => (List.nodup_cons.mp sep).1 (by rw [← z]; simp)
    have oj : a.2.2 ≠ a.2.1 := fun z => by
      have := (List.nodup_cons.mp (List.nodup_cons.mp (List.nodup_cons.mp sep).2).2).1
      exact this (by rw [← z]; simp)
    have ok' : A.k ≠ a.2.1 := ne_kind I1.lis.known hall1.1.ops (fun z => by cases z)
    have kr : A.k ≠ A.r := ne_kind I1.lis.known I1.ins (fun z => by cases z)
    have nr : A.n ≠ A.r := ne_kind I1.lis.nodes I1.ins (fun z => by cases z)
    have lr : A.l ≠ A.r := ne_kind I1.lis.ins I1.ins (fun z => absurd (MO.ins.inj z).1 (by decide +kernel))
    have lo : A.l ≠ a.2.1 := ne_kind I1.lis.ins hall1.1.ops (fun z => by cases z)
    have ar : a.1 ≠ A.r := ne_kind hall1.1.ins I1.ins (fun z => absurd (MO.ins.inj z).1 (by decide +kernel))
    have ao : a.1 ≠ a.2.1 := ne_kind hall1.1.ins hall1.1.ops (fun z => by cases z)
    have or' : a.2.1 ≠ A.r := ro.symm
    have jr : a.2.2 ≠ A.r := ne_kind hall1.1.joins I1.ins (fun z => by cases z)
    have e : finishR R i = { ({ R with ns := (notsS L.nots R.ns i).1, lvs := { L with nots := 0 } :: Ls, opened := R.opened - L.nots } : Rd) with lvs := { ops := (notsS L.nots R.ns i).2 :: L.ops, joins := L.joins, nots := 0 } :: Ls, aw := "join" } := by
      unfold finishR; rw [hL]
    rw [e]
    refine I1.step hA rfl rfl (fun b o eb h1 h2 h3 h4 h5 h6 => ?_) ?_ ⟨?_, ?_, ?_⟩ ⟨?_, ?_, ?_⟩
    · rw [mup_ne h1, mup_ne h5]; exact eb
    · rw [mup_same]; rfl
    · rw [mup_ne lr, mup_ne lo]; exact I1.lis.ins
    · rw [mup_ne nr, mup_ne on.symm]; exact I1.lis.nodes
    · rw [mup_ne kr, mup_ne ok']; exact I1.lis.known
    · rw [mup_ne ar, mup_ne ao]; exact hall1.1.ins
    · rw [mup_ne or', mup_same, List.map_cons, List.reverse_cons]
    · rw [mup_ne jr, mup_ne oj]; exact hall1.1.joins
end L2.EV
set_option maxHeartbeats 1000000
/-! K01L7: the reader of sayings: reduce. -/
namespace L2.EV
open PySem PySem.Spec PyProof.Rows
theorem tabBind (w : Str) : tabGet TT "BINDING" w = (bindOf w).map dI := by
  have e : TT "BINDING" = bindL.map fun p => (p.1, dI p.2) := by rfl
  unfold tabGet bindOf
  rw [e]
  induction bindL with
  | nil => rfl
  | cons p l ih =>
    obtain ⟨a, b⟩ := p
    rw [List.map_cons, List.lookup_cons, List.lookup_cons]
    cases w == a with
    | true => rfl
    | false => exact ih
theorem pop_last {m : Mem} {a : Addr} {xs : List D} {x : D} {Q : QD} (h : m a = some (.lst (xs ++ [x]))) : mPop (.ref a) [] m Q = Q x (mup m a (.lst xs)) := by
  simp [mPop, lstQ, h, someQ]
/-- one turn of reduce -/
theorem red_loop {A : RA'} {X : XD} {Q : QD} {m0 : Mem} {b : Nat} {Z : Zs} : ∀ (js : List Str) (m : Mem) (R : Rd) (L : Lv) (Ls : List Lv) (a : LA) (as : List LA) (e3 e4 : Option D), A.la = a :: as → RdAt m A R → R.lvs = L :: Ls → L.joins = js → (∀ j ∈ js, (bindOf j).isSome = true) → js.length + 1 = L.ops.length → L.ops.length < 1000000 → R.ns.length + js.length < 1000000 → Frm A m0 m →
    (∀ m' e3 e4, Frm A m0 m' → RdAt m' A (reduceR R b) → Z.nx [some (.ref A.r), some (.ref a.1), some (dI b), e3, e4] m') →
    whileN (tAnd (tOf (eBin dGt (eB bLen (aCons (eFld FF "joins" (eVar 1)) aNil)) (eK (.int 0)))) (tOf (eBin dGe (eBin (dIx TT) (eK c_BINDING) (eBin (dIx TT) (eFld FF "joins" (eVar 1)) (eUn dNeg (eK (.int 1))))) (eVar 2))))
     (sSeq (sAsg (gN 3) (eM isLst mPop (eFld FF "operands" (eVar 1)) aNil))
     (sSeq (sAsg (gN 4) (eM isLst mPop (eFld FF "operands" (eVar 1)) aNil))
     (sExpr (eM isLst mAppend (eFld FF "operands" (eVar 1)) (aCons (eMeth "Lister" "put" g_Lister_put [] (eFld FF "lister" (eVar 0)) (aCons (eTup (aCons (eM isLst mPop (eFld FF "joins" (eVar 1)) aNil) (aCons (eVar 4) (aCons (eVar 3) aNil)))) aNil)) aNil))))) (js.length + 1) [some (.ref A.r), some (.ref a.1), some (dI b), e3, e4] m Z
  | [], m, R, L, Ls, a, as, e3, e4, hA, I, hL, hj, hb, hl, ho, hz, fr, hf => by
    have hall := I.all
    rw [hA, hL] at hall
    have f1 : ∀ Q, fldG FF "joins" (.ref a.1) m Q = Q (.ref a.2.2) m := fun Q => fldG_ref hall.1.ins ffV2 rfl
    have hjm : m a.2.2 = some (.lst []) := by rw [hall.1.joins, hj]; rfl
    simp only [List.length_nil, whileN, tAnd, tOf, eBin, eB, aCons, aNil, eFld_eq, eVar, eK, List.getElem?_cons_zero, List.getElem?_cons_succ, f1, bLen, d1Q, lenQ, hjm, dGt, bK]
    refine ⟨fun q => absurd q (by decide), fun _ => ⟨fun q => (by cases q), fun _ => hf m e3 e4 fr ?_⟩⟩
    have e : reduceR R b = R := by
      obtain ⟨r1, r2, r3, r4, r5, r6⟩ := R
      obtain ⟨l1, l2, l3⟩ := L
      have hL' : r3 = ⟨l1, l2, l3⟩ :: Ls := hL
      have hj' : l2 = [] := hj
      subst hL' hj'
      simp only [reduceR]
      cases l1 with
      | nil => simp [reduceS]
      | cons x l1 => cases l1 <;> simp [reduceS]
    rw [e]; exact I
  | j :: js, m, R, L, Ls, a, as, e3, e4, hA, I, hL, hj, hb, hl, ho, hz, fr, hf => by
    have hall := I.all
    rw [hA, hL] at hall
    have f1 : ∀ Q, fldG FF "joins" (.ref a.1) m Q = Q (.ref a.2.2) m := fun Q => fldG_ref hall.1.ins ffV2 rfl
    have hjm : m a.2.2 = some (.lst ((js.map D.str).reverse ++ [.str j])) := by rw [hall.1.joins, hj, List.map_cons, List.reverse_cons]
    obtain ⟨bj, hbj⟩ := Option.isSome_iff_exists.mp (hb j (List.mem_cons_self ..))
    have ix : ∀ Q : QD, dIx TT (.ref a.2.2) (.int (-1)) m Q = Q (.str j) m := fun Q => by simp only [dIx, hjm, intQ, atI_last, someQ]
    have ix2 : ∀ Q : QD, dIx TT c_BINDING (.str j) m Q = Q (dI bj) m := fun Q => by
      show dIx TT (.glob "BINDING") (.str j) m Q = _
      simp only [dIx, strQ, tabBind, hbj, Option.map_some, someQ]
    rw [List.length_cons, whileN]
    simp only [tAnd, tOf, eBin, eB, aCons, aNil, eUn, dNeg, eFld_eq, eVar, eK, List.getElem?_cons_zero, List.getElem?_cons_succ, f1, bLen, d1Q, lenQ, hjm, dGt, bK]
    refine ⟨fun _ => ?_, fun q => absurd q (by rw [decide_eq_true (by rw [List.length_append, List.length_singleton]; omega : (0 : Int) < ((((js.map D.str).reverse ++ [D.str j]).length : Nat) : Int))]; decide)⟩
    rw [ix, ix2]
    simp only [dI, dGe]
    by_cases hle : b ≤ bj
    · rw [decide_eq_true (by omega : (b : Int) ≤ (bj : Int))]
      refine ⟨fun _ => ?_, fun q => (by cases q)⟩
      obtain ⟨s, f, rest, hops⟩ : ∃ s f rest, L.ops = s :: f :: rest := by
        cases h1 : L.ops with
        | nil => rw [h1] at hl; simp at hl
        | cons s r1 =>
          cases h2 : r1 with
          | nil => rw [h1, h2] at hl; simp at hl
          | cons f rest => exact ⟨s, f, rest, rfl⟩
      have ina : a ∈ A.la := by rw [hA]; exact List.mem_cons_self ..
      have sep := I.sep
      simp only [lists, hA, List.flatMap_cons] at sep
      have on : a.2.1 ≠ A.n := fun z => (List.nodup_cons.mp sep).1 (by rw [← z]; simp)
      have jn : a.2.2 ≠ A.n := fun z => (List.nodup_cons.mp sep).1 (by rw [← z]; simp)
      have oj : a.2.2 ≠ a.2.1 := fun z => by
        have := (List.nodup_cons.mp (List.nodup_cons.mp (List.nodup_cons.mp sep).2).2).1
        exact this (by rw [← z]; simp)
      have ok' : a.2.1 ≠ A.k := ne_kind hall.1.ops I.lis.known (fun z => by cases z)
      have jk : a.2.2 ≠ A.k := ne_kind hall.1.joins I.lis.known (fun z => by cases z)
      have an : a.1 ≠ A.n := ne_kind hall.1.ins I.lis.nodes (fun z => by cases z)
      have ak : a.1 ≠ A.k := ne_kind hall.1.ins I.lis.known (fun z => by cases z)
      have ao : a.1 ≠ a.2.1 := ne_kind hall.1.ins hall.1.ops (fun z => by cases z)
      have aj : a.1 ≠ a.2.2 := ne_kind hall.1.ins hall.1.joins (fun z => by cases z)
      have ro : A.r ≠ a.2.1 := ne_kind I.ins hall.1.ops (fun z => by cases z)
      have rj : A.r ≠ a.2.2 := ne_kind I.ins hall.1.joins (fun z => by cases z)
      have rn : A.r ≠ A.n := ne_kind I.ins I.lis.nodes (fun z => by cases z)
      have rk : A.r ≠ A.k := ne_kind I.ins I.lis.known (fun z => by cases z)
      have lo : A.l ≠ a.2.1 := ne_kind I.lis.ins hall.1.ops (fun z => by cases z)
      have lj : A.l ≠ a.2.2 := ne_kind I.lis.ins hall.1.joins (fun z => by cases z)
      have hom : m a.2.1 = some (.lst (((rest.map dI).reverse ++ [dI f]) ++ [dI s])) := by rw [hall.1.ops, hops]; simp
      have g1 : ∀ Q, fldG FF "operands" (.ref a.1) m Q = Q (.ref a.2.1) m := fun Q => fldG_ref hall.1.ins ffV1 rfl
      simp only [sSeq, sAsg, gN, eM, aNil, eFld_eq, eVar, List.getElem?_cons_zero, List.getElem?_cons_succ, g1, isLst, hom, true_and]
      rw [pop_last hom]
      simp only [List.set_cons_succ, List.set_cons_zero]
      have i1 : mup m a.2.1 (.lst ((rest.map dI).reverse ++ [dI f])) a.1 = m a.1 := mup_ne ao
      rw [hall.1.ins] at i1
      have g2 : ∀ Q, fldG FF "operands" (.ref a.1) (mup m a.2.1 (.lst ((rest.map dI).reverse ++ [dI f]))) Q = Q (.ref a.2.1) (mup m a.2.1 (.lst ((rest.map dI).reverse ++ [dI f]))) := fun Q => fldG_ref i1 ffV1 rfl
      simp only [List.getElem?_cons_zero, List.getElem?_cons_succ, g2, mup_same, true_and]
      rw [pop_last mup_same, mup_mup]
      have i2 : mup m a.2.1 (.lst (rest.map dI).reverse) a.1 = m a.1 := mup_ne ao
      rw [hall.1.ins] at i2
      have r2 : mup m a.2.1 (.lst (rest.map dI).reverse) A.r = m A.r := mup_ne ro
      rw [I.ins] at r2
      have l2 : mup m a.2.1 (.lst (rest.map dI).reverse) A.l = m A.l := mup_ne lo
      rw [I.lis.ins] at l2
      have j2 : mup m a.2.1 (.lst (rest.map dI).reverse) a.2.2 = m a.2.2 := mup_ne oj
      rw [hjm] at j2
      have g3 : ∀ Q, fldG FF "operands" (.ref a.1) (mup m a.2.1 (.lst (rest.map dI).reverse)) Q = Q (.ref a.2.1) (mup m a.2.1 (.lst (rest.map dI).reverse)) := fun Q => fldG_ref i2 ffV1 rfl
      have g4 : ∀ Q, fldG FF "lister" (.ref A.r) (mup m a.2.1 (.lst (rest.map dI).reverse)) Q = Q (.ref A.l) (mup m a.2.1 (.lst (rest.map dI).reverse)) := fun Q => fldG_ref r2 ffS1 rfl
      have g5 : ∀ Q, fldG FF "joins" (.ref a.1) (mup m a.2.1 (.lst (rest.map dI).reverse)) Q = Q (.ref a.2.2) (mup m a.2.1 (.lst (rest.map dI).reverse)) := fun Q => fldG_ref i2 ffV2 rfl
      simp only [sExpr, eM, aCons, aNil, eMeth, eTup, eFld_eq, eVar, List.set_cons_succ, List.set_cons_zero, List.getElem?_cons_zero, List.getElem?_cons_succ, g3, g4, g5, isLst, mup_same, true_and, insQ_ref l2, j2, List.append_nil]
      refine ⟨rfl, ?_⟩
      rw [pop_last j2]
      refine ⟨by rw [sizeLine_eq]; show 3 ≤ 16777216; decide, A.l, A.n, A.k, R.ns, [.inr j, .inl (f : Nat), .inl (s : Nat)], rfl, ⟨?_, ?_, ?_⟩, by rw [List.length_cons] at hz; omega, fun m4 fr4 L4 => ?_⟩
      · rw [mup_ne lj]; exact l2
      · rw [mup_ne jn.symm, mup_ne on.symm]; exact I.lis.nodes
      · rw [mup_ne jk.symm, mup_ne ok'.symm]; exact I.lis.known
      have o4 : m4 a.2.1 = some (.lst (rest.map dI).reverse) := fr4 _ _ (by rw [mup_ne oj.symm, mup_same]) on ok'
      simp only [mAppend, lstQ, o4, d1Q]
      have hrl : rest.length + 2 = L.ops.length := by rw [hops]; simp
      refine ⟨by rw [List.length_reverse, List.length_map, sizeLine_eq]; omega, _, Sub.refl _, ?_⟩
      have I2 : RdAt (mup m4 a.2.1 (.lst ((rest.map dI).reverse ++ [.int ((putN R.ns [.inr j, .inl (f : Nat), .inl (s : Nat)]).2 : Nat)]))) A { R with ns := (putN R.ns [.inr j, .inl (f : Nat), .inl (s : Nat)]).1, lvs := { L with ops := (putN R.ns [.inr j, .inl (f : Nat), .inl (s : Nat)]).2 :: rest, joins := js } :: Ls } := by
        refine I.step hA hL rfl (fun c o e h1 h2 h3 h4 h5 h6 => ?_) ?_ ⟨?_, ?_, ?_⟩ ⟨?_, ?_, ?_⟩
        · rw [mup_ne h5]; exact fr4 _ _ (by rw [mup_ne h6, mup_ne h5]; exact e) h2 h3
        · rw [mup_ne ro]; exact fr4 _ _ (by rw [mup_ne rj]; exact r2) rn rk
        · rw [mup_ne lo]; exact L4.ins
        · rw [mup_ne on.symm]; exact L4.nodes
        · rw [mup_ne ok'.symm]; exact L4.known
        · rw [mup_ne ao]; exact fr4 _ _ (by rw [mup_ne aj]; exact i2) an ak
        · rw [mup_same, List.map_cons, List.reverse_cons]; rfl
        · rw [mup_ne oj]; exact fr4 _ _ (by rw [mup_same]) jn jk
      have hlen : (putN R.ns [.inr j, .inl (f : Nat), .inl (s : Nat)]).1.length ≤ R.ns.length + 1 := by
        unfold putN; split
        · exact Nat.le_succ _
        · simp
      refine red_loop (X := X) (Q := Q) (m0 := m0) js _ _ _ Ls a as _ _ hA I2 rfl rfl (fun x hx => hb x (List.mem_cons_of_mem _ hx)) (by rw [List.length_cons] at hl; show js.length + 1 = rest.length + 1; omega) (by show rest.length + 1 < 1000000; omega) (by show (putN R.ns [.inr j, .inl (f : Nat), .inl (s : Nat)]).1.length + js.length < 1000000; rw [List.length_cons] at hz; omega) (fr.trans fun c o e nc => ?_) fun m' e3 e4 fr' I' => hf m' e3 e4 fr' ?_
      · have co : c ≠ a.2.1 := fun z => nc (by rw [z]; exact (fp_a ina).2.1)
        have cj : c ≠ a.2.2 := fun z => nc (by rw [z]; exact (fp_a ina).2.2)
        rw [mup_ne co]
        exact fr4 _ _ (by rw [mup_ne cj, mup_ne co]; exact e) (fun z => nc (by rw [z]; exact fp_n)) (fun z => nc (by rw [z]; exact fp_k))
      · have e : reduceR R b = reduceR { R with ns := (putN R.ns [.inr j, .inl (f : Nat), .inl (s : Nat)]).1, lvs := { L with ops := (putN R.ns [.inr j, .inl (f : Nat), .inl (s : Nat)]).2 :: rest, joins := js } :: Ls } b := by
          have hg : b ≤ (bindOf j).getD 0 := by rw [hbj]; exact hle
          simp only [reduceR, hL, hops, hj]
          rw [reduceS, if_pos hg]
        rw [e]; exact I'
    · rw [decide_eq_false (by omega : ¬ (b : Int) ≤ (bj : Int))]
      refine ⟨fun q => (by cases q), fun _ => hf m e3 e4 fr ?_⟩
      have e : reduceR R b = R := by
        have hg : ¬ b ≤ (bindOf j).getD 0 := by rw [hbj]; exact hle
        obtain ⟨r1, r2, r3, r4, r5, r6⟩ := R
        obtain ⟨l1, l2, l3⟩ := L
        have hL' : r3 = ⟨l1, l2, l3⟩ :: Ls := hL
        have hj' : l2 = j :: js := hj
        subst hL' hj'
        simp only [reduceR]
        cases l1 with
        | nil => simp [reduceS]
        | cons x l1 =>
          cases l1 with
          | nil => simp [reduceS]
          | cons y l1 => rw [reduceS, if_neg hg]
      rw [e]; exact I
theorem l_SayingReader_reduce {ds : List D} {m : Mem} {Q : QD} {X : XD} (h : g_SayingReader_reduce ds m Q X) : r_SayingReader_reduce (startD N_SayingReader_reduce.length ds) m (zsOf Q X) := by
  obtain ⟨A, R, a, as, L, Ls, b, rfl, I, hA, hL, hb, hl, ho, hz, h⟩ := h
  show r_SayingReader_reduce [some (.ref A.r), some (.ref a.1), some (dI b), none, none] m (zsOf Q X)
  exact ⟨_, red_loop (X := X) (Q := Q) (m0 := m) L.joins m R L Ls a as none none hA I hL rfl hb hl ho hz (Frm.refl m) fun m' e3 e4 fr I' => h m' fr I'⟩
end L2.EV
set_option maxHeartbeats 1000000
/-! K01L8: the reader of sayings: the whole. -/
namespace L2.EV
open PySem PySem.Spec PyProof.Rows
theorem l_SayingReader_whole {ds : List D} {m : Mem} {Q : QD} {X : XD} (h : g_SayingReader_whole ds m Q X) : r_SayingReader_whole (startD N_SayingReader_whole.length ds) m (zsOf Q X) := by
  obtain ⟨A, R, L, rfl, I, hL, hb, hl, ho, hz, h⟩ := h
  show r_SayingReader_whole [some (.ref A.r)] m (zsOf Q X)
  have hall := I.all
  rw [hL] at hall
  obtain ⟨a, as, hA, hla, hls⟩ := hall.un
  have hn : as = [] := by
    cases as with
    | nil => rfl
    | cons _ _ => exact hls.elim
  subst hn
  have f1 : ∀ Q, fldG FF "levels" (.ref A.r) m Q = Q (.ref A.v) m := fun Q => fldG_ref I.ins ffS2 rfl
  have hlev : m A.v = some (.lst [.ref a.1]) := by rw [I.lev, hA]; rfl
  have ix : ∀ Q : QD, dIx TT (.ref A.v) (.int 0) m Q = Q (.ref a.1) m := fun Q => by simp only [dIx, hlev, intQ, atI_zero, someQ]
  simp only [r_SayingReader_whole, sSeq, sExpr, eMeth, aCons, aNil, eBin, eK, eFld_eq, eVar, List.getElem?_cons_zero, f1, ix, insQ_ref I.ins, List.append_nil]
  refine ⟨rfl, A, R, a, [], L, [], 0, rfl, I, hA, hL, hb, hl, ho, hz, fun m1 fr1 I1 => ?_⟩
  have f2 : ∀ Q, fldG FF "lister" (.ref A.r) m1 Q = Q (.ref A.l) m1 := fun Q => fldG_ref I1.ins ffS1 rfl
  have f3 : ∀ Q, fldG FF "nodes" (.ref A.l) m1 Q = Q (.ref A.n) m1 := fun Q => fldG_ref I1.lis.ins ffL1 rfl
  simp only [sRet, eB, aCons, aNil, eFld_eq, eVar, List.getElem?_cons_zero, f2, f3, bTuple, d1Q, tupQ, I1.lis.nodes]
  exact h m1 fr1
/-- a new level on top -/
theorem RdAt.push {m m' : Mem} {A : RA'} {R R' : Rd} {p o j : Addr} (h : RdAt m A R) (hp : m p = none) (ho : m o = none) (hj : m j = none) (oj : o ≠ j) (hR' : R'.lvs = ⟨[], [], 0⟩ :: R.lvs) (hns : R'.ns = R.ns)
    (fr : ∀ c u, m c = some u → c ≠ A.r → c ≠ A.v → m' c = some u)
    (ins : m' A.r = some (.ins "SayingReader" [("letters", .str R'.letters), ("lister", .ref A.l), ("levels", .ref A.v), ("awaited", .str R'.aw), ("begun", dN R'.begun), ("opened", .int (R'.opened : Nat))]))
    (lev : m' A.v = some (.lst ((A.la.map fun a => D.ref a.1).reverse ++ [.ref p]))) (top : LvAt m' (p, o, j) ⟨[], [], 0⟩) : RdAt m' { A with la := (p, o, j) :: A.la } R' := by
  have sep := h.sep
  simp only [lists] at sep
  have av : A.n ≠ A.v := fun z => (List.nodup_cons.mp sep).1 (by rw [z]; simp)
  have old : ∀ b ∈ A.la, m b.1 ≠ none ∧ m b.2.1 ≠ none ∧ m b.2.2 ≠ none := fun b hb => by
    obtain ⟨L, hL⟩ := h.all.mem b hb
    exact ⟨fun z => (by rw [hL.ins] at z; cases z), fun z => (by rw [hL.ops] at z; cases z), fun z => (by rw [hL.joins] at z; cases z)⟩
  have nin : ∀ c, m c = none → c ∉ A.la.flatMap fun a => [a.2.1, a.2.2] := fun c hc hm => by
    obtain ⟨b, hb, hcb⟩ := List.mem_flatMap.mp hm
    simp only [List.mem_cons, List.not_mem_nil, or_false] at hcb
    rcases hcb with rfl | rfl
    · exact (old b hb).2.1 hc
    · exact (old b hb).2.2 hc
  refine ⟨ins, ⟨?_, ?_, ?_⟩, ?_, ?_, ?_, ?_⟩
  · exact fr _ _ h.lis.ins (ne_kind h.lis.ins h.ins (fun z => absurd (MO.ins.inj z).1 (by decide +kernel))) (ne_kind h.lis.ins h.lev (fun z => by cases z))
  · rw [hns]; exact fr _ _ h.lis.nodes (ne_kind h.lis.nodes h.ins (fun z => by cases z)) av
  · rw [hns]; exact fr _ _ h.lis.known (ne_kind h.lis.known h.ins (fun z => by cases z)) (ne_kind h.lis.known h.lev (fun z => by cases z))
  · rw [lev, List.map_cons, List.reverse_cons]
  · rw [hR']
    refine ⟨top, h.all.keep fun b hb c hc u hu => ?_⟩
    obtain ⟨Lb, hLb⟩ := h.all.mem b hb
    have hv : A.v ∉ A.la.flatMap fun a => [a.2.1, a.2.2] := (List.nodup_cons.mp (List.nodup_cons.mp sep).2).1
    rcases hc with rfl | rfl | rfl
    · exact fr _ _ hu (ne_kind hLb.ins h.ins (fun z => absurd (MO.ins.inj z).1 (by decide +kernel))) (ne_kind hLb.ins h.lev (fun z => by cases z))
    · exact fr _ _ hu (ne_kind hLb.ops h.ins (fun z => by cases z)) (fun z => hv (by rw [← z]; exact List.mem_flatMap.mpr ⟨b, hb, by simp⟩))
    · exact fr _ _ hu (ne_kind hLb.joins h.ins (fun z => by cases z)) (fun z => hv (by rw [← z]; exact List.mem_flatMap.mpr ⟨b, hb, by simp⟩))
  · have no1 : A.n ≠ o := ne_new h.lis.nodes ho
    have no2 : A.n ≠ j := ne_new h.lis.nodes hj
    have vo1 : A.v ≠ o := ne_new h.lev ho
    have vo2 : A.v ≠ j := ne_new h.lev hj
    have s1 := List.nodup_cons.mp sep
    have s2 := List.nodup_cons.mp s1.2
    show (A.n :: A.v :: ((p, o, j) :: A.la).flatMap fun a => [a.2.1, a.2.2]).Nodup
    simp only [List.flatMap_cons, List.cons_append, List.nil_append]
    refine List.nodup_cons.mpr ⟨fun z => ?_, List.nodup_cons.mpr ⟨fun z => ?_, List.nodup_cons.mpr ⟨fun z => ?_, List.nodup_cons.mpr ⟨nin j hj, s2.2⟩⟩⟩⟩
    · rcases List.mem_cons.mp z with z | z
      · exact av z
      · rcases List.mem_cons.mp z with z | z
        · exact no1 z
        · rcases List.mem_cons.mp z with z | z
          · exact no2 z
          · exact s1.1 (List.mem_cons_of_mem _ z)
    · rcases List.mem_cons.mp z with z | z
      · exact vo1 z
      · rcases List.mem_cons.mp z with z | z
        · exact vo2 z
        · exact s2.1 z
    · rcases List.mem_cons.mp z with z | z
      · exact oj z
      · exact nin o ho z
  · show (((p, o, j) :: A.la).map (·.1)).Nodup
    rw [List.map_cons]
    refine List.nodup_cons.mpr ⟨fun z => ?_, h.sepL⟩
    obtain ⟨b, hb, e⟩ := List.mem_map.mp z
    exact (old b hb).1 (by rw [e]; exact hp)
end L2.EV
set_option maxHeartbeats 1000000
/-! K01L9: the reader of sayings: an operand. -/
namespace L2.EV
open PySem PySem.Spec PyProof.Rows
theorem in_strs2 {w a b : Str} {m : Mem} {Q : QD} (hw : PyData.strOk w = true) (ha : PyData.strOk a = true) (hb : PyData.strOk b = true) : dIn TT (.str w) (.tup [.str a, .str b]) m Q = Q (.bl (decide (w = a ∨ w = b))) m := by
  show dInB TT (.str w) (.tup [.str a, .str b]) m (fun c => Q (.bl c) m) = _
  have e1 : inOk (.str w) [.str a, .str b] := ⟨⟨hw, by show 0 ≤ 60; decide⟩, by simp only [plains, plain, Bool.and_true, Bool.and_eq_true]; exact ⟨ha, hb⟩, by show max 0 (max 0 0) ≤ 59; decide⟩
  have e2 : inD (.str w) [.str a, .str b] = decide (w = a ∨ w = b) := by
    simp only [inD, List.any_cons, List.any_nil, Bool.or_false, eqD]
    rw [Bool.eq_iff_iff]
    simp only [Bool.or_eq_true, beq_iff_eq, decide_eq_true_eq]
    exact ⟨fun h => h.imp Eq.symm Eq.symm, fun h => h.imp Eq.symm Eq.symm⟩
  simp only [dInB, e1, true_and, e2]
theorem in_alone {w : Str} {m : Mem} {Q : QD} (hw : PyData.strOk w = true) : dIn TT (.str w) c_ALONE m Q = Q (.bl (decide (w = "yes" ∨ w = "no" ∨ w = "bare"))) m := by
  have ha : PyData.strOk "yes" = true := by decide +kernel
  have hb : PyData.strOk "no" = true := by decide +kernel
  have hc : PyData.strOk "bare" = true := by decide +kernel
  show dInB TT (.str w) (.ct [.str "yes", .str "no", .str "bare"]) m (fun c => Q (.bl c) m) = _
  have e1 : inOk (.str w) [.str "yes", .str "no", .str "bare"] := ⟨⟨hw, by show 0 ≤ 60; decide⟩, by simp only [plains, plain, Bool.and_true, Bool.and_eq_true]; exact ⟨ha, hb, hc⟩, by show max 0 (max 0 (max 0 0)) ≤ 59; decide⟩
  have e2 : inD (.str w) [.str "yes", .str "no", .str "bare"] = decide (w = "yes" ∨ w = "no" ∨ w = "bare") := by
    simp only [inD, List.any_cons, List.any_nil, Bool.or_false, eqD]
    rw [Bool.eq_iff_iff]
    simp only [Bool.or_eq_true, beq_iff_eq, decide_eq_true_eq]
    exact ⟨fun h => h.imp Eq.symm (fun h => h.imp Eq.symm Eq.symm), fun h => h.imp Eq.symm (fun h => h.imp Eq.symm Eq.symm)⟩
  simp only [dInB, e1, true_and, e2]
/-- the reader's own fields changed alone -/
theorem RdAt.self {m : Mem} {A : RA'} {R R' : Rd} (h : RdAt m A R) (h1 : R'.lvs = R.lvs) (h2 : R'.ns = R.ns) :
    RdAt (mup m A.r (.ins "SayingReader" [("letters", .str R'.letters), ("lister", .ref A.l), ("levels", .ref A.v), ("awaited", .str R'.aw), ("begun", dN R'.begun), ("opened", .int (R'.opened : Nat))])) A R' := by
  have n : ∀ c u, m c = some u → (∀ fs, u ≠ .ins "SayingReader" fs) → mup m A.r (.ins "SayingReader" [("letters", .str R'.letters), ("lister", .ref A.l), ("levels", .ref A.v), ("awaited", .str R'.aw), ("begun", dN R'.begun), ("opened", .int (R'.opened : Nat))]) c = some u := fun c u e k => by
    rw [mup_ne (ne_kind e h.ins (k _))]; exact e
  refine ⟨mup_same, ⟨n _ _ h.lis.ins (fun fs z => absurd (MO.ins.inj z).1 (by decide +kernel)), ?_, ?_⟩, n _ _ h.lev (fun fs z => by cases z), ?_, h.sep, h.sepL⟩
  · rw [h2]; exact n _ _ h.lis.nodes (fun fs z => by cases z)
  · rw [h2]; exact n _ _ h.lis.known (fun fs z => by cases z)
  · rw [h1]
    refine h.all.keep fun b hb c hc u hu => ?_
    obtain ⟨Lb, hLb⟩ := h.all.mem b hb
    rcases hc with rfl | rfl | rfl
    · rw [hLb.ins] at hu; cases hu; exact n _ _ hLb.ins (fun fs z => absurd (MO.ins.inj z).1 (by decide +kernel))
    · rw [hLb.ops] at hu; cases hu; exact n _ _ hLb.ops (fun fs z => by cases z)
    · rw [hLb.joins] at hu; cases hu; exact n _ _ hLb.joins (fun fs z => by cases z)
theorem Frm.self {A : RA'} {m : Mem} {o : MO} : Frm A m (mup m A.r o) := fun c u e nc => by
  rw [mup_ne (fun z => nc (by rw [z]; exact fp_r))]; exact e
end L2.EV
set_option maxHeartbeats 1000000
/-! K01L10: the reader of sayings: take_operand, its last part. -/
namespace L2.EV
open PySem PySem.Spec PyProof.Rows
def rOpTail : ES :=
  (sSeq (sIf (tOf (eBin dEq (eVar 1) (eK (.str "holds"))))
   (sSeq (sSetF FF "begun" (eVar 0) (eTup (aCons (eK (.str "holds")) aNil)))
   (sSeq (sSetF FF "awaited" (eVar 0) (eK (.str "term")))
   (sRet (eK (.bl true)))))
   sNil)
  (sSeq (sSetF FF "begun" (eVar 0) (eTup (aCons (eVar 1) aNil)))
  (sSeq (sSetF FF "awaited" (eVar 0) (eK (.str "relation")))
  (sRet (eCall g_is_term [] (aCons (eFld FF "letters" (eVar 0)) (aCons (eVar 1) aNil)))))))
def opTail (R : Rd) (w : Str) : Rd × Bool :=
  if w = "holds" then ({ R with begun := [.inr "holds"], aw := "term" }, true)
  else ({ R with begun := [.inr w], aw := "relation" }, termOk R.letters (.str w))
theorem l_opTail {A : RA'} {R : Rd} {w : Str} {m : Mem} {Q : QD} {X : XD} (I : RdAt m A R) (hw : wordOk w)
    (h : ∀ m', Frm A m m' → RdAt m' A (opTail R w).1 → Q (.bl (opTail R w).2) m') : rOpTail [some (.ref A.r), some (.str w)] m (zsOf Q X) := by
  have sh : PyData.strOk "holds" = true := by decide +kernel
  have h1 : 1 ≤ sizeLine := by rw [sizeLine_eq]; decide
  have two : ∀ (ks : List Key) (v : Str), mup (mup m A.r (.ins "SayingReader" (putFD "begun" (dN ks) [("letters", .str R.letters), ("lister", .ref A.l), ("levels", .ref A.v), ("awaited", .str R.aw), ("begun", dN R.begun), ("opened", .int (R.opened : Nat))]))) A.r (.ins "SayingReader" (putFD "awaited" (.str v) (putFD "begun" (dN ks) [("letters", .str R.letters), ("lister", .ref A.l), ("levels", .ref A.v), ("awaited", .str R.aw), ("begun", dN R.begun), ("opened", .int (R.opened : Nat))])))
      = mup m A.r (.ins "SayingReader" [("letters", .str R.letters), ("lister", .ref A.l), ("levels", .ref A.v), ("awaited", .str v), ("begun", dN ks), ("opened", .int (R.opened : Nat))]) := fun ks v => by
    funext c
    by_cases q : c = A.r
    · subst q; rw [mup_same, mup_same]; rfl
    · rw [mup_ne q, mup_ne q, mup_ne q]
  simp only [rOpTail, sSeq, sIf, tOf, eBin, eVar, eK, List.getElem?_cons_zero, List.getElem?_cons_succ, dEq_str hw.2 sh, bK]
  by_cases q : w = "holds"
  · rw [decide_eq_true q]
    refine ⟨fun _ => ?_, fun z => (by cases z)⟩
    simp only [sSetF, eTup, aCons, aNil, eK, eVar, List.getElem?_cons_zero, List.getElem?_cons_succ]
    refine ⟨h1, ?_⟩
    rw [fldQ_ref I.ins]
    refine ⟨ffS4, by show 6 < 1000; decide, ?_⟩
    rw [fldQ_ref mup_same]
    refine ⟨ffS3, by show 6 < 1000; decide, ?_⟩
    have e := two [.inr "holds"] "term"
    have e' : (dN [.inr "holds"] : D) = .tup [.str "holds"] := rfl
    rw [e'] at e
    rw [e]
    have g := h _ Frm.self (by simp only [opTail, q, if_true]; exact I.self (R' := { R with begun := [.inr "holds"], aw := "term" }) rfl rfl)
    simp only [opTail, q, if_true] at g
    exact g
  · rw [decide_eq_false q]
    refine ⟨fun z => (by cases z), fun _ => ?_⟩
    simp only [sNil, sSetF, eTup, aCons, aNil, eK, eVar, List.getElem?_cons_zero, List.getElem?_cons_succ]
    refine ⟨h1, ?_⟩
    rw [fldQ_ref I.ins]
    refine ⟨ffS4, by show 6 < 1000; decide, ?_⟩
    rw [fldQ_ref mup_same]
    refine ⟨ffS3, by show 6 < 1000; decide, ?_⟩
    have e := two [.inr w] "relation"
    have e' : (dN [.inr w] : D) = .tup [.str w] := rfl
    rw [e'] at e
    rw [e]
    have I' := I.self (R' := { R with begun := [.inr w], aw := "relation" }) rfl rfl
    have g := h _ Frm.self (by simp only [opTail, q, if_false]; exact I')
    simp only [opTail, q, if_false] at g
    have f1 : ∀ Q, fldG FF "letters" (.ref A.r) _ Q = Q (.str R.letters) _ := fun Q => fldG_ref I'.ins ffS6 rfl
    simp only [e'] at f1 g
    simp only [sRet, eCall, aCons, aNil, eFld_eq, eVar, List.getElem?_cons_zero, List.getElem?_cons_succ, f1, List.append_nil]
    exact ⟨R.letters, .str w, rfl, ⟨⟨_, rfl⟩, fun z e => (by cases e; exact hw), fun xs => (by intro z; cases z)⟩, g⟩
end L2.EV
set_option maxHeartbeats 1000000
/-! K01L11: the reader of sayings: a node put in, and finished. -/
namespace L2.EV
open PySem PySem.Spec PyProof.Rows
/-- the list of nodes alone changed -/
theorem RdAt.put {m m1 : Mem} {A : RA'} {R : Rd} {ns : List (List Key)} (I : RdAt m A R) (fr : ∀ a o, m a = some o → a ≠ A.n → a ≠ A.k → m1 a = some o) (L1 : ListerAt m1 A.l A.n A.k ns) : RdAt m1 A { R with ns := ns } := by
  have sep := I.sep
  simp only [lists] at sep
  have av : A.v ≠ A.n := fun z => (List.nodup_cons.mp sep).1 (by rw [← z]; simp)
  refine ⟨fr _ _ I.ins (ne_kind I.ins I.lis.nodes (fun z => by cases z)) (ne_kind I.ins I.lis.known (fun z => by cases z)), L1, fr _ _ I.lev av (ne_kind I.lev I.lis.known (fun z => by cases z)), ?_, I.sep, I.sepL⟩
  refine I.all.keep fun b hb c hc u hu => ?_
  obtain ⟨Lb, hLb⟩ := I.all.mem b hb
  have nn : A.n ∉ A.la.flatMap fun a => [a.2.1, a.2.2] := fun z => (List.nodup_cons.mp sep).1 (List.mem_cons_of_mem _ z)
  rcases hc with rfl | rfl | rfl
  · exact fr _ _ hu (ne_kind hLb.ins I.lis.nodes (fun z => by cases z)) (ne_kind hLb.ins I.lis.known (fun z => by cases z))
  · exact fr _ _ hu (fun z => nn (by rw [← z]; exact List.mem_flatMap.mpr ⟨b, hb, by simp⟩)) (ne_kind hLb.ops I.lis.known (fun z => by cases z))
  · exact fr _ _ hu (fun z => nn (by rw [← z]; exact List.mem_flatMap.mpr ⟨b, hb, by simp⟩)) (ne_kind hLb.joins I.lis.known (fun z => by cases z))
theorem Frm.put {m m1 : Mem} {A : RA'} (fr : ∀ a o, m a = some o → a ≠ A.n → a ≠ A.k → m1 a = some o) : Frm A m m1 := fun c u e nc => fr c u e (fun z => nc (by rw [z]; exact fp_n)) (fun z => nc (by rw [z]; exact fp_k))
/-- self.finish(self.lister.put(node)), whatever node the arguments write -/
theorem put_fin {A : RA'} {R : Rd} {ks : List Key} {as : EA} {e : List (Option D)} {m : Mem} {Q : QD} {X : XD} (I : RdAt m A R) (ok : RdOk R) (he : e[0]? = some (some (.ref A.r)))
    (ha : ∀ (q : List D → Mem → Prop), q [dN ks] m → as e m q X)
    (h : ∀ m', Frm A m m' → RdAt m' A (putR R ks) → Q .non m') :
    eMeth "SayingReader" "finish" g_SayingReader_finish [] (eVar 0) (aCons (eMeth "Lister" "put" g_Lister_put [] (eFld FF "lister" (eVar 0)) as) aNil) e m Q X := by
  obtain ⟨L, Ls, hL, hn, hz, ho⟩ := ok.top
  have f1 : ∀ Q, fldG FF "lister" (.ref A.r) m Q = Q (.ref A.l) m := fun Q => fldG_ref I.ins ffS1 rfl
  simp only [eMeth, eVar, he, insQ_ref I.ins, aCons, aNil, eFld_eq, f1, insQ_ref I.lis.ins]
  refine ⟨rfl, rfl, ha _ ?_⟩
  simp only [List.append_nil]
  refine ⟨A.l, A.n, A.k, R.ns, ks, rfl, I.lis, by omega, fun m1 fr1 L1 => ?_⟩
  have hp : (putN R.ns ks).1.length ≤ R.ns.length + 1 := by
    unfold putN
    split
    · exact Nat.le_succ _
    · exact Nat.le_of_eq (List.length_append)
  refine ⟨A, { R with ns := (putN R.ns ks).1 }, (putN R.ns ks).2, L, Ls, rfl, I.put fr1 L1, hL, hn, ?_, ho, fun m2 fr2 I2 => ?_⟩
  · show (putN R.ns ks).1.length + L.nots < 1000000
    omega
  · exact h m2 (Frm.trans (Frm.put fr1) fr2) I2
end L2.EV
set_option maxHeartbeats 1000000
/-! K01L12: the reader of sayings: take_operand. -/
namespace L2.EV
open PySem PySem.Spec PyProof.Rows
/-- a word ahead of an operand: one more is open -/
def rOpen : ES :=
   (sSeq (sIf (tOf (eBin dEq (eFld FF "opened" (eVar 0)) (eK c_MOST_OPEN)))
    (sRet (eK (.bl false)))
    sNil)
   (sSeq (sAugF FF "opened" dIAdd (eVar 0) (eK (.int 1)))
   (sSeq (sIf (tOf (eBin dEq (eVar 1) (eK (.str "("))))
    (sExpr (eM isLst mAppend (eFld FF "levels" (eVar 0)) (aCons (eMake "Level" g_Level___init__ [] aNil) aNil)))
    (sAugF FF "nots" dIAdd (eBin (dIx TT) (eFld FF "levels" (eVar 0)) (eUn dNeg (eK (.int 1)))) (eK (.int 1))))
   (sRet (eK (.bl true))))))
theorem l_open {A : RA'} {R : Rd} {w : Str} {m : Mem} {Q : QD} {X : XD} {k : Sl → Mem → Prop} (I : RdAt m A R) (ok : RdOk R) (hw : wordOk w) (q : w = "(" ∨ w = "not")
    (h : ∀ m' A', A'.r = A.r → Fro A A' m → Frm A m m' → RdAt m' A' (takeOperand R w).1 → Q (.bl (takeOperand R w).2) m') : rOpen [some (.ref A.r), some (.str w)] m { zsOf Q X with nx := k } := by
  have sp : PyData.strOk "(" = true := by decide +kernel
  obtain ⟨L, Ls, hL, hn, hz, ho⟩ := ok.top
  have f1 : ∀ Q, fldG FF "opened" (.ref A.r) m Q = Q (.int (R.opened : Nat)) m := fun Q => fldG_ref I.ins ffS5 rfl
  rw [rOpen, sSeq]
  simp only [sIf, tOf, eBin, eFld_eq, eVar, eK, List.getElem?_cons_zero, List.getElem?_cons_succ, f1, dEq_int, bK]
  by_cases q1 : R.opened = 30
  · rw [decide_eq_true (by omega : ((R.opened : Nat) : Int) = 30)]
    refine ⟨fun _ => ?_, fun z => (by cases z)⟩
    have e : takeOperand R w = (R, false) := by unfold takeOperand; rw [if_pos q, if_pos q1]
    rw [e] at h
    exact h m A rfl (fun c hc => .inl hc) (Frm.refl m) I
  · rw [decide_eq_false (by omega : ¬ ((R.opened : Nat) : Int) = 30)]
    refine ⟨fun z => (by cases z), fun _ => ?_⟩
    simp only [sNil, sSeq, sAugF, eVar, eK, List.getElem?_cons_zero]
    rw [fldQ_ref I.ins]
    refine ⟨ffS5, ?_⟩
    show optQ (some (D.int (R.opened : Nat))) _
    rw [optQ_some']
    simp only [dIAdd]
    rw [fldQ_ref I.ins]
    refine ⟨ffS5, rfl, by show 6 < 1000; decide, ?_⟩
    have I1 := I.self (R' := { R with opened := R.opened + 1 }) rfl rfl
    have em : mup m A.r (.ins "SayingReader" (putFD "opened" (.int ((R.opened : Nat) + 1)) [("letters", .str R.letters), ("lister", .ref A.l), ("levels", .ref A.v), ("awaited", .str R.aw), ("begun", dN R.begun), ("opened", .int (R.opened : Nat))]))
      = mup m A.r (.ins "SayingReader" [("letters", .str R.letters), ("lister", .ref A.l), ("levels", .ref A.v), ("awaited", .str R.aw), ("begun", dN R.begun), ("opened", .int ((R.opened + 1 : Nat) : Int))]) := rfl
    rw [em]
    have fr0 : Frm A m (mup m A.r (.ins "SayingReader" [("letters", .str R.letters), ("lister", .ref A.l), ("levels", .ref A.v), ("awaited", .str R.aw), ("begun", dN R.begun), ("opened", .int ((R.opened + 1 : Nat) : Int))])) := Frm.self
    generalize mup m A.r (.ins "SayingReader" [("letters", .str R.letters), ("lister", .ref A.l), ("levels", .ref A.v), ("awaited", .str R.aw), ("begun", dN R.begun), ("opened", .int ((R.opened + 1 : Nat) : Int))]) = m1 at I1 fr0 ⊢
    have f2 : ∀ Q, fldG FF "levels" (.ref A.r) m1 Q = Q (.ref A.v) m1 := fun Q => fldG_ref I1.ins ffS2 rfl
    simp only [sIf, tOf, eBin, eVar, eK, List.getElem?_cons_zero, List.getElem?_cons_succ, dEq_str hw.2 sp, bK]
    by_cases q2 : w = "("
    · rw [decide_eq_true q2]
      refine ⟨fun _ => ?_, fun z => (by cases z)⟩
      have e : takeOperand R w = ({ R with opened := R.opened + 1, lvs := ⟨[], [], 0⟩ :: R.lvs }, true) := by unfold takeOperand; rw [if_pos q, if_neg q1, if_pos q2]
      rw [e] at h
      simp only [sExpr, eM, eFld_eq, eVar, List.getElem?_cons_zero, f2, aCons, aNil, eMake]
      refine ⟨by simp only [isLst, I1.lev], fun p hp => ?_⟩
      refine ⟨p, rfl, mup_same, fun m2 o j fr ho' hj' oj top => ?_⟩
      refine ⟨rfl, ?_⟩
      have up : ∀ c u, m1 c = some u → m2 c = some u := fun c u hu => fr c u (by rw [mup_ne (ne_new hu hp)]; exact hu) (ne_new hu hp)
      have dn : ∀ c, mup m1 p (.ins "Level" []) c = none → m1 c = none ∧ c ≠ p := fun c hc => by
        by_cases z : c = p
        · rw [z, mup_same] at hc; cases hc
        · rw [mup_ne z] at hc; exact ⟨hc, z⟩
      have lv2 := up _ _ I1.lev
      have hlen : A.la.length = R.lvs.length := I.all.length
      have ol := ok.lev
      simp only [mAppend, lstQ, lv2, d1Q]
      refine ⟨by rw [List.length_reverse, List.length_map, hlen, sizeLine_eq]; omega, ?_⟩
      have vp : p ≠ A.v := fun z => (ne_new I1.lev hp) z.symm
      have vo : o ≠ A.v := fun z => (ne_new I1.lev (dn _ ho').1) z.symm
      have vj : j ≠ A.v := fun z => (ne_new I1.lev (dn _ hj').1) z.symm
      refine h _ { A with la := (p, o, j) :: A.la } rfl (fun c hc => ?_) (fr0.trans fun c u hu nc => ?_) (I1.push hp (dn _ ho').1 (dn _ hj').1 oj rfl rfl (fun c u hu n1 n2 => ?_) ?_ mup_same ⟨?_, ?_, ?_⟩)
      · have nn : ∀ c, m1 c = none → c ∈ fpA A ∨ m c = none := fun c hc => by
          by_cases z : c ∈ fpA A
          · exact .inl z
          · cases hm : m c with
            | none => exact .inr rfl
            | some u => rw [fr0 _ _ hm z] at hc; cases hc
        have hc' : c = p ∨ c = o ∨ c = j ∨ c ∈ fpA A := by
          simp only [fpA, lists, List.flatMap_cons, List.map_cons, List.mem_cons, List.mem_append, List.not_mem_nil, or_false] at hc ⊢
          grind
        rcases hc' with rfl | rfl | rfl | hc'
        · exact nn _ hp
        · exact nn _ (dn _ ho').1
        · exact nn _ (dn _ hj').1
        · exact .inl hc'
      · rw [mup_ne (fun z => nc (by rw [z]; simp [fpA, lists]))]; exact up _ _ hu
      · rw [mup_ne n2]; exact up _ _ hu
      · rw [mup_ne (ne_kind I1.ins I1.lev (fun z => by cases z))]; exact up _ _ I1.ins
      · rw [mup_ne vp]; exact top.ins
      · rw [mup_ne vo]; exact top.ops
      · rw [mup_ne vj]; exact top.joins
    · rw [decide_eq_false q2]
      refine ⟨fun z => (by cases z), fun _ => ?_⟩
      have e : takeOperand R w = ({ R with opened := R.opened + 1, lvs := { L with nots := L.nots + 1 } :: Ls }, true) := by unfold takeOperand; rw [if_pos q, if_neg q1, if_neg q2, hL]
      rw [e] at h
      have hall := I1.all
      rw [show ({ R with opened := R.opened + 1 } : Rd).lvs = R.lvs from rfl, hL] at hall
      obtain ⟨a, as, hA, hla, hls⟩ := hall.un
      have ina : a ∈ A.la := by rw [hA]; exact List.mem_cons_self ..
      have lv1 : m1 A.v = some (.lst ((as.map fun a => D.ref a.1).reverse ++ [.ref a.1])) := by rw [I1.lev, hA, List.map_cons, List.reverse_cons]
      have ix : ∀ Q : QD, dIx TT (.ref A.v) (.int (-1)) m1 Q = Q (.ref a.1) m1 := fun Q => by simp only [dIx, lv1, intQ, atI_last, someQ]
      simp only [sAugF, eBin, eFld_eq, eVar, eK, eUn, dNeg, List.getElem?_cons_zero, f2, ix]
      rw [fldQ_ref hla.ins]
      refine ⟨ffV3, ?_⟩
      show optQ (some (D.int (L.nots : Nat))) _
      rw [optQ_some']
      simp only [dIAdd]
      rw [fldQ_ref hla.ins]
      refine ⟨ffV3, rfl, by show 3 < 1000; decide, ?_⟩
      have em2 : mup m1 a.1 (.ins "Level" (putFD "nots" (.int ((L.nots : Nat) + 1)) [("operands", .ref a.2.1), ("joins", .ref a.2.2), ("nots", .int (L.nots : Nat))]))
        = mup m1 a.1 (.ins "Level" [("operands", .ref a.2.1), ("joins", .ref a.2.2), ("nots", .int ((L.nots + 1 : Nat) : Int))]) := rfl
      rw [em2]
      have k1 : ∀ c u, m1 c = some u → (∀ fs, u ≠ .ins "Level" fs) → mup m1 a.1 (.ins "Level" [("operands", .ref a.2.1), ("joins", .ref a.2.2), ("nots", .int ((L.nots + 1 : Nat) : Int))]) c = some u := fun c u hu k => by
        rw [mup_ne (ne_kind hu hla.ins (k _))]; exact hu
      refine h _ A rfl (fun c hc => .inl hc) (fr0.trans fun c u hu nc => ?_) (I1.step (L' := { L with nots := L.nots + 1 }) hA hL rfl (fun c u hu _ _ _ n4 _ _ => ?_) ?_ ⟨?_, ?_, ?_⟩ ⟨mup_same, ?_, ?_⟩)
      · rw [mup_ne (fun z => nc (by rw [z]; exact (fp_a ina).1))]; exact hu
      · rw [mup_ne n4]; exact hu
      · exact k1 _ _ I1.ins (fun fs z => absurd (MO.ins.inj z).1 (by decide +kernel))
      · exact k1 _ _ I1.lis.ins (fun fs z => absurd (MO.ins.inj z).1 (by decide +kernel))
      · exact k1 _ _ I1.lis.nodes (fun fs z => by cases z)
      · exact k1 _ _ I1.lis.known (fun fs z => by cases z)
      · exact k1 _ _ hla.ops (fun fs z => by cases z)
      · exact k1 _ _ hla.joins (fun fs z => by cases z)
theorem l_SayingReader_take_operand {ds : List D} {m : Mem} {Q : QD} {X : XD} (h : g_SayingReader_take_operand ds m Q X) : r_SayingReader_take_operand (startD N_SayingReader_take_operand.length ds) m (zsOf Q X) := by
  obtain ⟨A, R, w, rfl, I, ok, hw, h⟩ := h
  show r_SayingReader_take_operand [some (.ref A.r), some (.str w)] m (zsOf Q X)
  have sp : PyData.strOk "(" = true := by decide +kernel
  have sn : PyData.strOk "not" = true := by decide +kernel
  have h1 : 1 ≤ sizeLine := by rw [sizeLine_eq]; decide
  have h2 : 2 ≤ sizeLine := by rw [sizeLine_eq]; decide
  have hb : (takeOperand R w) = if w = "(" ∨ w = "not" then takeOperand R w else if w = "yes" ∨ w = "no" ∨ w = "bare" then (putR R [.inr w], true) else opTail R w := by
    unfold takeOperand opTail
    by_cases q : w = "(" ∨ w = "not"
    · rw [if_pos q, if_pos q]
    · rw [if_neg q, if_neg q]
  rw [r_SayingReader_take_operand, sSeq]
  simp only [sIf, tOf, eBin, eTup, aCons, aNil, eVar, eK, List.getElem?_cons_zero, List.getElem?_cons_succ]
  refine ⟨h2, ?_⟩
  rw [in_strs2 hw.2 sp sn]
  by_cases q : w = "(" ∨ w = "not"
  · simp only [bK, decide_eq_true q]
    exact ⟨fun _ => l_open I ok hw q h, fun z => (by cases z)⟩
  · simp only [bK, decide_eq_false q]
    refine ⟨fun z => (by cases z), fun _ => ?_⟩
    rw [if_neg q] at hb
    simp only [sNil, sSeq, sIf, tOf, eBin, eVar, eK, List.getElem?_cons_succ, List.getElem?_cons_zero]
    rw [in_alone hw.2]
    by_cases q2 : w = "yes" ∨ w = "no" ∨ w = "bare"
    · rw [if_pos q2] at hb
      rw [hb] at h
      simp only [bK, decide_eq_true q2]
      refine ⟨fun _ => ?_, fun z => (by cases z)⟩
      simp only [sExpr]
      refine put_fin (ks := [.inr w]) I ok rfl (fun q0 hq => ⟨h1, hq⟩) fun m' fr I' => ?_
      exact h m' A rfl (fun c hc => .inl hc) fr I'
    · rw [if_neg q2] at hb
      rw [hb] at h
      simp only [bK, decide_eq_false q2]
      refine ⟨fun z => (by cases z), fun _ => ?_⟩
      exact l_opTail I hw fun m' fr I' => h m' A rfl (fun c hc => .inl hc) fr I'
end L2.EV
set_option maxHeartbeats 1000000
/-! K01L13: the reader of sayings: a level taken off. -/
namespace L2.EV
open PySem PySem.Spec PyProof.Rows
theorem Frm.sub {A A' : RA'} {m m' : Mem} (h : Frm A' m m') (s : ∀ c ∈ fpA A', c ∈ fpA A) : Frm A m m' := fun c u e nc => h c u e (fun z => nc (s c z))
theorem fpA_pop {A : RA'} {a : LA} {as : List LA} (hA : A.la = a :: as) : ∀ c ∈ fpA { A with la := as }, c ∈ fpA A := fun c hc => by
  simp only [fpA, lists, hA, List.flatMap_cons, List.map_cons, List.mem_cons, List.mem_append, List.not_mem_nil, or_false] at hc ⊢
  rcases hc with h | h | h | (h | h | h) | h
  · exact .inl h
  · exact .inr (.inl h)
  · exact .inr (.inr (.inl h))
  · exact .inr (.inr (.inr (.inl (.inl h))))
  · exact .inr (.inr (.inr (.inl (.inr (.inl h)))))
  · exact .inr (.inr (.inr (.inl (.inr (.inr (.inr h))))))
  · exact .inr (.inr (.inr (.inr (.inr h))))
theorem RdAt.pop {m : Mem} {A : RA'} {R : Rd} {a : LA} {as : List LA} {L : Lv} {Ls : List Lv} (I : RdAt m A R) (hA : A.la = a :: as) (hL : R.lvs = L :: Ls) :
    RdAt (mup m A.v (.lst (as.map fun a => D.ref a.1).reverse)) { A with la := as } { R with lvs := Ls } := by
  have hall := I.all
  rw [hA, hL] at hall
  have sep := I.sep
  simp only [lists, hA, List.flatMap_cons] at sep
  have s1 := List.nodup_cons.mp sep
  have s2 := List.nodup_cons.mp s1.2
  have nv : A.n ≠ A.v := fun z => s1.1 (by rw [z]; simp)
  have sepL := I.sepL
  rw [hA, List.map_cons] at sepL
  refine ⟨?_, ⟨?_, ?_, ?_⟩, mup_same, ?_, ?_, (List.nodup_cons.mp sepL).2⟩
  · rw [mup_ne (ne_kind I.ins I.lev (fun z => by cases z))]; exact I.ins
  · rw [mup_ne (ne_kind I.lis.ins I.lev (fun z => by cases z))]; exact I.lis.ins
  · rw [mup_ne nv]; exact I.lis.nodes
  · rw [mup_ne (ne_kind I.lis.known I.lev (fun z => by cases z))]; exact I.lis.known
  · refine hall.2.keep fun b hb c hc u hu => ?_
    obtain ⟨Lb, hLb⟩ := hall.2.mem b hb
    have vv : A.v ∉ as.flatMap fun a => [a.2.1, a.2.2] := fun z => s2.1 (List.mem_append_right _ z)
    rcases hc with rfl | rfl | rfl
    · rw [mup_ne (ne_kind hLb.ins I.lev (fun z => by cases z))]; exact hu
    · rw [mup_ne (fun z => vv (by rw [← z]; exact List.mem_flatMap.mpr ⟨b, hb, by simp⟩))]; exact hu
    · rw [mup_ne (fun z => vv (by rw [← z]; exact List.mem_flatMap.mpr ⟨b, hb, by simp⟩))]; exact hu
  · refine List.nodup_cons.mpr ⟨fun z => s1.1 ?_, List.nodup_cons.mpr ⟨fun z => s2.1 (List.mem_append_right _ z), ?_⟩⟩
    · rcases List.mem_cons.mp z with z | z
      · exact absurd z nv
      · exact List.mem_cons_of_mem _ (List.mem_append_right _ z)
    · exact (List.nodup_append.mp s2.2).2.1
end L2.EV
set_option maxHeartbeats 1000000
/-! K01L14: the reader of sayings: take_join, the words of the table. -/
namespace L2.EV
open PySem PySem.Spec PyProof.Rows
/-- reduce, called from a walk -/
theorem red_call {A : RA'} {R : Rd} {b : Nat} {a : LA} {as : List LA} {L : Lv} {Ls : List Lv} {es : EA} {e : Sl} {m : Mem} {Q : QD} {X : XD} (I : RdAt m A R) (hA : A.la = a :: as) (hL : R.lvs = L :: Ls) (ok : JoinOk R) (he : e[0]? = some (some (.ref A.r)))
    (ha : ∀ (q : List D → Mem → Prop), q [.ref a.1, dI b] m → es e m q X)
    (h : ∀ m', Frm A m m' → RdAt m' A (reduceR R b) → Q .non m') :
    eMeth "SayingReader" "reduce" g_SayingReader_reduce [] (eVar 0) es e m Q X := by
  obtain ⟨L', Ls', hL', hj, hl, ho, hz, _⟩ := ok.top
  rw [hL] at hL'
  obtain ⟨rfl, rfl⟩ := List.cons.inj hL'
  simp only [eMeth, eVar, he, insQ_ref I.ins]
  refine ⟨rfl, ha _ ?_⟩
  simp only [List.append_nil]
  exact ⟨A, R, a, as, L, Ls, b, rfl, I, hA, hL, fun j hj' => (hj j hj').1, hl, ho, hz, h⟩
end L2.EV
set_option maxHeartbeats 1000000
/-! K01L15: the reader of sayings: take_join, the words of the table, the pieces. -/
namespace L2.EV
open PySem PySem.Spec PyProof.Rows
theorem reduceS_joins (b : Nat) : ∀ (js : List Str) (ns : List (List Key)) (ops : List Nat), (reduceS b ns ops js).2.2.length ≤ js.length
  | [], ns, ops => by
    cases ops with
    | nil => simp [reduceS]
    | cons x xs => cases xs <;> simp [reduceS]
  | j :: js, ns, ops => by
    cases ops with
    | nil => simp [reduceS]
    | cons s r => cases r with
      | nil => simp [reduceS]
      | cons f ops =>
        simp only [reduceS]
        split
        · exact Nat.le_trans (reduceS_joins b js _ _) (Nat.le_succ _)
        · exact Nat.le_refl _
theorem putN_len (ns : List (List Key)) (ks : List Key) : (putN ns ks).1.length ≤ ns.length + 1 := by
  unfold putN
  split
  · exact Nat.le_succ _
  · exact Nat.le_of_eq (List.length_append)
theorem reduceS_ns (b : Nat) : ∀ (js : List Str) (ns : List (List Key)) (ops : List Nat), (reduceS b ns ops js).1.length ≤ ns.length + js.length
  | [], ns, ops => by
    cases ops with
    | nil => simp [reduceS]
    | cons x xs => cases xs <;> simp [reduceS]
  | j :: js, ns, ops => by
    cases ops with
    | nil => simp [reduceS]
    | cons s r => cases r with
      | nil => simp [reduceS]
      | cons f ops =>
        simp only [reduceS]
        split
        · have h1 := reduceS_ns b js (putN ns [.inr j, .inl (f : Nat), .inl (s : Nat)]).1 ((putN ns [.inr j, .inl (f : Nat), .inl (s : Nat)]).2 :: ops)
          have h2 := putN_len ns [.inr j, .inl (f : Nat), .inl (s : Nat)]
          rw [List.length_cons]
          omega
        · exact Nat.le_add_right _ _
/-- with nothing bound back, one operand stays -/
theorem reduceS_all : ∀ (js : List Str) (ns : List (List Key)) (ops : List Nat), js.length + 1 = ops.length → ∃ i, (reduceS 0 ns ops js).2.1 = [i] ∧ (reduceS 0 ns ops js).2.2 = []
  | [], ns, ops, h => by
    cases ops with
    | nil => simp at h
    | cons x xs => cases xs with
      | nil => exact ⟨x, by simp [reduceS], by simp [reduceS]⟩
      | cons y ys => simp at h
  | j :: js, ns, ops, h => by
    cases ops with
    | nil => simp at h
    | cons s r => cases r with
      | nil => simp at h
      | cons f ops =>
        simp only [reduceS, Nat.zero_le, if_true]
        exact reduceS_all js _ _ (by simp only [List.length_cons] at h ⊢; omega)
theorem notin_bind {w : Str} {m : Mem} {Q : QD} : dNotIn TT (.str w) c_BINDING m Q = (TT "BINDING" ≠ [] ∧ Q (.bl (!(bindOf w).isSome)) m) := by
  show dInB TT (.str w) (.glob "BINDING") m (fun b => Q (.bl (!b)) m) = _
  simp only [dInB, strQ, tabBind]
  cases bindOf w <;> rfl
theorem plains_strs : ∀ {js : List Str}, (∀ j ∈ js, PyData.strOk j = true) → plains (js.map D.str) = true
  | [], _ => rfl
  | j :: js, h => by
    simp only [List.map_cons, plains, plain, Bool.and_eq_true]
    exact ⟨h j (List.mem_cons_self ..), plains_strs fun k hk => h k (List.mem_cons_of_mem _ hk)⟩
theorem deps_strs : ∀ {js : List Str}, deps (js.map D.str) = 0
  | [] => rfl
  | j :: js => by
    show max (dep (.str j)) (deps (js.map D.str)) = 0
    rw [deps_strs]; rfl
theorem in_strs {w : Str} {js : List Str} {a : Addr} {m : Mem} {Q : QD} (hm : m a = some (.lst (js.map D.str).reverse)) (hw : PyData.strOk w = true) (h : ∀ j ∈ js, PyData.strOk j = true) : dIn TT (.str w) (.ref a) m Q = Q (.bl (decide (w ∈ js))) m := by
  show dInB TT (.str w) (.ref a) m (fun c => Q (.bl c) m) = _
  have er : (js.map D.str).reverse = js.reverse.map D.str := List.map_reverse.symm
  have e1 : inOk (.str w) (js.reverse.map D.str) := ⟨⟨hw, by show 0 ≤ 60; decide⟩, plains_strs fun j hj => h j (List.mem_reverse.mp hj), by rw [deps_strs]; decide⟩
  have e2 : inD (.str w) (js.reverse.map D.str) = decide (w ∈ js) := by
    rw [Bool.eq_iff_iff, decide_eq_true_iff]
    simp only [inD, List.any_map, List.any_eq_true, List.mem_reverse, Function.comp, eqD, beq_iff_eq]
    exact ⟨fun ⟨x, hx, e⟩ => e ▸ hx, fun hx => ⟨w, hx, rfl⟩⟩
  rw [er] at hm
  simp only [dInB, hm, e1, true_and, e2]
end L2.EV
set_option maxHeartbeats 1000000
/-! K01L16: the reader of sayings: take_join, a word of the table. -/
namespace L2.EV
open PySem PySem.Spec PyProof.Rows
def rJoinTail : ES :=
  (sSeq (sIf (tOr (tOf (eBin (dNotIn TT) (eVar 1) (eK c_BINDING))) (tOr (tOf (eBin dEq (eVar 1) (eK (.str "not")))) (tAnd (tOf (eBin dEq (eVar 1) (eK (.str "adds")))) (tOf (eBin (dIn TT) (eK (.str "adds")) (eFld FF "joins" (eVar 2)))))))
   (sRet (eK (.bl false)))
   sNil)
  (sSeq (sExpr (eMeth "SayingReader" "reduce" g_SayingReader_reduce [] (eVar 0) (aCons (eVar 2) (aCons (eBin (dIx TT) (eK c_BINDING) (eVar 1)) aNil))))
  (sSeq (sExpr (eM isLst mAppend (eFld FF "joins" (eVar 2)) (aCons (eVar 1) aNil)))
  (sSeq (sSetF FF "awaited" (eVar 0) (eK (.str "operand")))
  (sRet (eK (.bl true)))))))
theorem l_joinTail {A : RA'} {R : Rd} {a : LA} {as : List LA} {L : Lv} {Ls : List Lv} {w : Str} {m : Mem} {Q : QD} {X : XD} (I : RdAt m A R) (hA : A.la = a :: as) (hL : R.lvs = L :: Ls) (ok : JoinOk R) (hw : wordOk w) (q : w ≠ ")")
    (h : ∀ m', Frm A m m' → RdAt m' A (takeJoin R w).1 → Q (.bl (takeJoin R w).2) m') : rJoinTail [some (.ref A.r), some (.str w), some (.ref a.1)] m (zsOf Q X) := by
  have sn : PyData.strOk "not" = true := by decide +kernel
  have sa : PyData.strOk "adds" = true := by decide +kernel
  have hT : TT "BINDING" ≠ [] := by
    have e : TT "BINDING" = bindL.map fun p => (p.1, dI p.2) := by rfl
    rw [e]; intro z; cases z
  obtain ⟨L', Ls', hL', hj, hl, ho, hz, _⟩ := ok.top
  rw [hL] at hL'
  obtain ⟨rfl, rfl⟩ := List.cons.inj hL'
  have hall := I.all
  rw [hA, hL] at hall
  have f1 : ∀ Q, fldG FF "joins" (.ref a.1) m Q = Q (.ref a.2.2) m := fun Q => fldG_ref hall.1.ins ffV2 rfl
  have hin : ∀ Q : QD, dIn TT (.str "adds") (.ref a.2.2) m Q = Q (.bl (decide (("adds" : Str) ∈ L.joins))) m := fun Q => in_strs hall.1.joins sa fun j hj' => (hj j hj').2
  have no : ∀ (e : takeJoin R w = (R, false)), sRet (eK (.bl false)) [some (.ref A.r), some (.str w), some (.ref a.1)] m (zsOf Q X) := fun e => by
    rw [e] at h; exact h m (Frm.refl m) I
  rw [rJoinTail, sSeq]
  simp only [sIf, tOr, tAnd, tOf, eBin, eFld_eq, eVar, eK, List.getElem?_cons_zero, List.getElem?_cons_succ, notin_bind, bK, f1, hin, dEq_str hw.2 sn, dEq_str hw.2 sa]
  refine ⟨hT, ?_⟩
  cases hb : bindOf w with
  | none =>
    have e : takeJoin R w = (R, false) := by simp only [takeJoin, hL, if_neg q, hb]
    exact ⟨fun _ => ⟨fun _ => no e, fun z => (by cases z)⟩, fun z => (by cases z)⟩
  | some b =>
    refine ⟨fun z => (by cases z), fun _ => ?_⟩
    by_cases q1 : w = "not"
    · rw [decide_eq_true q1]
      have e : takeJoin R w = (R, false) := by simp only [takeJoin, hL, if_neg q, hb, if_pos (Or.inl q1)]
      exact ⟨fun _ => ⟨fun _ => no e, fun z => (by cases z)⟩, fun z => (by cases z)⟩
    · rw [decide_eq_false q1]
      refine ⟨fun z => (by cases z), fun _ => ?_⟩
      have go : ¬ (w = "adds" ∧ ("adds" : Str) ∈ L.joins) → (sSeq (sExpr (eMeth "SayingReader" "reduce" g_SayingReader_reduce [] (eVar 0) (aCons (eVar 2) (aCons (eBin (dIx TT) (eK c_BINDING) (eVar 1)) aNil))))
          (sSeq (sExpr (eM isLst mAppend (eFld FF "joins" (eVar 2)) (aCons (eVar 1) aNil)))
          (sSeq (sSetF FF "awaited" (eVar 0) (eK (.str "operand")))
          (sRet (eK (.bl true)))))) [some (.ref A.r), some (.str w), some (.ref a.1)] m (zsOf Q X) := fun q2 => by
        have e : takeJoin R w = ({ reduceR R b with lvs := { L with ops := (reduceS b R.ns L.ops L.joins).2.1, joins := w :: (reduceS b R.ns L.ops L.joins).2.2 } :: Ls, aw := "operand" }, true) := by
          simp only [takeJoin, hL, if_neg q, hb, if_neg (not_or.mpr ⟨q1, q2⟩), reduceR]
        rw [e] at h
        have ix2 : ∀ Q : QD, dIx TT c_BINDING (.str w) m Q = Q (dI b) m := fun Q => by
          show dIx TT (.glob "BINDING") (.str w) m Q = _
          simp only [dIx, strQ, tabBind, hb, Option.map_some, someQ]
        simp only [sSeq, sExpr]
        refine red_call (b := b) I hA hL ok rfl (fun q0 hq => ?_) fun m1 fr1 I1 => ?_
        · simp only [aCons, aNil, eBin, eK, eVar, List.getElem?_cons_zero, List.getElem?_cons_succ, ix2]
          exact hq
        · have hL1 : (reduceR R b).lvs = { L with ops := (reduceS b R.ns L.ops L.joins).2.1, joins := (reduceS b R.ns L.ops L.joins).2.2 } :: Ls := by simp only [reduceR, hL]
          have hall1 := I1.all
          rw [hA, hL1] at hall1
          have g1 : ∀ Q, fldG FF "joins" (.ref a.1) m1 Q = Q (.ref a.2.2) m1 := fun Q => fldG_ref hall1.1.ins ffV2 rfl
          simp only [eM, eFld_eq, eVar, aCons, aNil, List.getElem?_cons_zero, List.getElem?_cons_succ, g1, isLst, hall1.1.joins, mAppend, lstQ, d1Q]
          have hlen := reduceS_joins b L.joins R.ns L.ops
          refine ⟨trivial, by rw [List.length_reverse, List.length_map, sizeLine_eq]; omega, ?_⟩
          have I2 : RdAt (mup m1 a.2.2 (.lst (((reduceS b R.ns L.ops L.joins).2.2.map D.str).reverse ++ [.str w]))) A { reduceR R b with lvs := { L with ops := (reduceS b R.ns L.ops L.joins).2.1, joins := w :: (reduceS b R.ns L.ops L.joins).2.2 } :: Ls } := by
            have sep := I.sep
            simp only [lists, hA, List.flatMap_cons] at sep
            have jn : A.n ≠ a.2.2 := fun z => (List.nodup_cons.mp sep).1 (by rw [z]; simp)
            have oj : a.2.1 ≠ a.2.2 := fun z => by
              have := (List.nodup_cons.mp (List.nodup_cons.mp (List.nodup_cons.mp sep).2).2).1
              exact this (by rw [z]; simp)
            refine I1.step hA hL1 rfl (fun c u hu _ _ _ _ _ n6 => ?_) ?_ ⟨?_, ?_, ?_⟩ ⟨?_, ?_, ?_⟩
            · rw [mup_ne n6]; exact hu
            · rw [mup_ne (ne_kind I1.ins hall1.1.joins (fun z => by cases z))]; exact I1.ins
            · rw [mup_ne (ne_kind I1.lis.ins hall1.1.joins (fun z => by cases z))]; exact I1.lis.ins
            · rw [mup_ne jn]; exact I1.lis.nodes
            · rw [mup_ne (ne_kind I1.lis.known hall1.1.joins (fun z => by cases z))]; exact I1.lis.known
            · rw [mup_ne (ne_kind hall1.1.ins hall1.1.joins (fun z => by cases z))]; exact hall1.1.ins
            · rw [mup_ne oj]; exact hall1.1.ops
            · rw [mup_same, List.map_cons, List.reverse_cons]
          have fr2 : Frm A m1 (mup m1 a.2.2 (.lst (((reduceS b R.ns L.ops L.joins).2.2.map D.str).reverse ++ [.str w]))) := fun c u hu nc => by
            rw [mup_ne (fun z => nc (by rw [z]; exact (fp_a (by rw [hA]; exact List.mem_cons_self ..)).2.2))]; exact hu
          simp only [sSetF, eK, eVar, List.getElem?_cons_zero]
          rw [fldQ_ref I2.ins]
          refine ⟨ffS3, by show 6 < 1000; decide, ?_⟩
          exact h _ (fr1.trans (fr2.trans Frm.self)) (I2.self (R' := { reduceR R b with lvs := { L with ops := (reduceS b R.ns L.ops L.joins).2.1, joins := w :: (reduceS b R.ns L.ops L.joins).2.2 } :: Ls, aw := "operand" }) rfl rfl)
      by_cases q3 : w = "adds"
      · rw [decide_eq_true q3]
        refine ⟨fun _ => ?_, fun z => (by cases z)⟩
        by_cases q4 : ("adds" : Str) ∈ L.joins
        · rw [decide_eq_true q4]
          have e : takeJoin R w = (R, false) := by simp only [takeJoin, hL, if_neg q, hb]; rw [if_pos (Or.inr ⟨q3, q4⟩)]
          exact ⟨fun _ => no e, fun z => (by cases z)⟩
        · rw [decide_eq_false q4]
          exact ⟨fun z => (by cases z), fun _ => go fun z => q4 z.2⟩
      · rw [decide_eq_false q3]
        exact ⟨fun z => (by cases z), fun _ => ⟨fun z => (by cases z), fun _ => go fun z => q3 z.1⟩⟩
end L2.EV
set_option maxHeartbeats 1000000
/-! K01L17: the reader of sayings: take_join. -/
namespace L2.EV
open PySem PySem.Spec PyProof.Rows
theorem l_SayingReader_take_join {ds : List D} {m : Mem} {Q : QD} {X : XD} (h : g_SayingReader_take_join ds m Q X) : r_SayingReader_take_join (startD N_SayingReader_take_join.length ds) m (zsOf Q X) := by
  obtain ⟨A, R, w, rfl, I, ok, hw, h⟩ := h
  show r_SayingReader_take_join [some (.ref A.r), some (.str w), none] m (zsOf Q X)
  have sp : PyData.strOk ")" = true := by decide +kernel
  obtain ⟨L, Ls, hL, hj, hl, ho, hz, hM⟩ := ok.top
  have hall := I.all
  rw [hL] at hall
  obtain ⟨a, as, hA, hla, hls⟩ := hall.un
  have lv1 : m A.v = some (.lst ((as.map fun a => D.ref a.1).reverse ++ [.ref a.1])) := by rw [I.lev, hA, List.map_cons, List.reverse_cons]
  have ix : ∀ Q : QD, dIx TT (.ref A.v) (.int (-1)) m Q = Q (.ref a.1) m := fun Q => by simp only [dIx, lv1, intQ, atI_last, someQ]
  have f2 : ∀ Q, fldG FF "levels" (.ref A.r) m Q = Q (.ref A.v) m := fun Q => fldG_ref I.ins ffS2 rfl
  rw [r_SayingReader_take_join, sSeq]
  simp only [sAsg, eBin, eUn, dNeg, eFld_eq, eVar, eK, List.getElem?_cons_zero, f2, ix, gN, List.set_cons_succ, List.set_cons_zero]
  rw [sSeq]
  simp only [sIf, tOf, eBin, eFld_eq, eVar, eK, List.getElem?_cons_zero, List.getElem?_cons_succ, dEq_str hw.2 sp, bK]
  by_cases q : w = ")"
  · rw [decide_eq_true q]
    refine ⟨fun _ => ?_, fun z => (by cases z)⟩
    simp only [sSeq, sIf, tOf, eBin, eB, aCons, aNil, eFld_eq, eVar, eK, List.getElem?_cons_zero, f2, bLen, d1Q, lenQ, lv1, dEq_int, bK]
    have hlen : as.length = Ls.length := hls.length
    cases hLs : Ls with
    | nil =>
      have e : takeJoin R w = (R, false) := by simp only [takeJoin, hL, if_pos q, hLs]
      rw [e] at h
      rw [decide_eq_true (by rw [List.length_append, List.length_reverse, List.length_map, hlen, hLs]; rfl)]
      exact ⟨fun _ => h m A rfl (fun c hc => .inl hc) (Frm.refl m) I, fun z => (by cases z)⟩
    | cons M Ms =>
      obtain ⟨n1, n2, n3⟩ := hM M Ms hLs
      obtain ⟨i, o1, o2⟩ := reduceS_all L.joins R.ns L.ops hl
      have hL1 : (reduceR R 0).lvs = { L with ops := (reduceS 0 R.ns L.ops L.joins).2.1, joins := (reduceS 0 R.ns L.ops L.joins).2.2 } :: Ls := by simp only [reduceR, hL]
      have e : takeJoin R w = (finishR { reduceR R 0 with lvs := Ls, opened := R.opened - 1 } i, true) := by
        simp only [takeJoin, hL, if_pos q, hLs, reduceR, o1]; rfl
      rw [e] at h
      rw [decide_eq_false (by rw [List.length_append, List.length_reverse, List.length_map, hlen, hLs, List.length_cons, List.length_singleton]; omega)]
      refine ⟨fun z => (by cases z), fun _ => ?_⟩
      simp only [sNil, sExpr]
      refine red_call (b := 0) I hA hL ok rfl (fun q0 hq => hq) fun m1 fr1 I1 => ?_
      have hall1 := I1.all
      rw [hA, hL1] at hall1
      have g2 : ∀ Q, fldG FF "levels" (.ref A.r) m1 Q = Q (.ref A.v) m1 := fun Q => fldG_ref I1.ins ffS2 rfl
      have lv2 : m1 A.v = some (.lst ((as.map fun a => D.ref a.1).reverse ++ [.ref a.1])) := by rw [I1.lev, hA, List.map_cons, List.reverse_cons]
      simp only [eM, eFld_eq, eVar, List.getElem?_cons_zero, g2, aNil, isLst, lv2, pop_last lv2]
      refine ⟨trivial, ?_⟩
      have I2 := I1.pop hA hL1
      have a2 := (show mup m1 A.v (.lst (as.map fun a => D.ref a.1).reverse) a.1 = m1 a.1 from mup_ne (ne_kind hall1.1.ins I1.lev (fun z => by cases z))).trans hall1.1.ins
      have sep := I.sep
      simp only [lists, hA, List.flatMap_cons] at sep
      have b2 := (show mup m1 A.v (.lst (as.map fun a => D.ref a.1).reverse) a.2.1 = m1 a.2.1 from mup_ne (fun z => (List.nodup_cons.mp (List.nodup_cons.mp sep).2).1 (by rw [← z]; simp))).trans hall1.1.ops
      have fr2 : Frm A m1 (mup m1 A.v (.lst (as.map fun a => D.ref a.1).reverse)) := fun c u hu nc => by
        rw [mup_ne (fun z => nc (by rw [z]; simp [fpA, lists]))]; exact hu
      generalize mup m1 A.v (.lst (as.map fun a => D.ref a.1).reverse) = m2 at I2 a2 b2 fr2 ⊢
      simp only [sAugF, eK, eVar, List.getElem?_cons_zero]
      rw [fldQ_ref I2.ins]
      refine ⟨ffS5, ?_⟩
      have oe : (reduceR R 0).opened = R.opened := by simp only [reduceR, hL]
      show optQ (some (D.int ((reduceR R 0).opened : Nat))) _
      rw [optQ_some']
      simp only [dSub]
      rw [fldQ_ref I2.ins]
      refine ⟨ffS5, rfl, by show 6 < 1000; decide, ?_⟩
      have I3 := I2.self (R' := { reduceR R 0 with lvs := Ls, opened := R.opened - 1 }) rfl rfl
      have hns : (reduceR R 0).ns = (reduceS 0 R.ns L.ops L.joins).1 := by simp only [reduceR, hL]
      have hnl := reduceS_ns 0 L.joins R.ns L.ops
      have em : (((reduceR R 0).opened : Nat) : Int) - 1 = ((R.opened - 1 : Nat) : Int) := by rw [oe]; omega
      rw [em]
      show eMeth _ _ _ _ _ _ _ (mup m2 A.r (.ins "SayingReader" [("letters", .str (reduceR R 0).letters), ("lister", .ref A.l), ("levels", .ref A.v), ("awaited", .str (reduceR R 0).aw), ("begun", dN (reduceR R 0).begun), ("opened", .int ((R.opened - 1 : Nat) : Int))])) _ _
      have a3 := (show mup m2 A.r (.ins "SayingReader" [("letters", .str (reduceR R 0).letters), ("lister", .ref A.l), ("levels", .ref A.v), ("awaited", .str (reduceR R 0).aw), ("begun", dN (reduceR R 0).begun), ("opened", .int ((R.opened - 1 : Nat) : Int))]) a.1 = m2 a.1 from mup_ne (ne_kind a2 I2.ins (fun z => absurd (MO.ins.inj z).1 (by decide +kernel)))).trans a2
      have b3 := (show mup m2 A.r (.ins "SayingReader" [("letters", .str (reduceR R 0).letters), ("lister", .ref A.l), ("levels", .ref A.v), ("awaited", .str (reduceR R 0).aw), ("begun", dN (reduceR R 0).begun), ("opened", .int ((R.opened - 1 : Nat) : Int))]) a.2.1 = m2 a.2.1 from mup_ne (ne_kind b2 I2.ins (fun z => by cases z))).trans b2
      have fr3 : Frm A m2 (mup m2 A.r (.ins "SayingReader" [("letters", .str (reduceR R 0).letters), ("lister", .ref A.l), ("levels", .ref A.v), ("awaited", .str (reduceR R 0).aw), ("begun", dN (reduceR R 0).begun), ("opened", .int ((R.opened - 1 : Nat) : Int))])) := Frm.self
      have I3' : RdAt (mup m2 A.r (.ins "SayingReader" [("letters", .str (reduceR R 0).letters), ("lister", .ref A.l), ("levels", .ref A.v), ("awaited", .str (reduceR R 0).aw), ("begun", dN (reduceR R 0).begun), ("opened", .int ((R.opened - 1 : Nat) : Int))])) { A with la := as } { reduceR R 0 with lvs := Ls, opened := R.opened - 1 } := I3
      generalize mup m2 A.r (.ins "SayingReader" [("letters", .str (reduceR R 0).letters), ("lister", .ref A.l), ("levels", .ref A.v), ("awaited", .str (reduceR R 0).aw), ("begun", dN (reduceR R 0).begun), ("opened", .int ((R.opened - 1 : Nat) : Int))]) = m3 at I3' a3 b3 fr3 ⊢
      rw [o1] at b3
      have g5 : ∀ Q, fldG FF "operands" (.ref a.1) m3 Q = Q (.ref a.2.1) m3 := fun Q => fldG_ref a3 ffV1 rfl
      have b3' : m3 a.2.1 = some (.lst [dI i]) := b3
      have ix5 : ∀ Q : QD, dIx TT (.ref a.2.1) (.int 0) m3 Q = Q (dI i) m3 := fun Q => by simp only [dIx, b3', intQ, atI_zero, someQ]
      simp only [eMeth, eVar, List.getElem?_cons_zero, List.getElem?_cons_succ, insQ_ref I3'.ins, aCons, aNil, eBin, eK, eFld_eq, g5, ix5, List.append_nil]
      refine ⟨rfl, { A with la := as }, { reduceR R 0 with lvs := Ls, opened := R.opened - 1 }, i, M, Ms, rfl, I3', hLs, by show M.nots ≤ R.opened - 1; omega, by show (reduceR R 0).ns.length + M.nots < 1000000; rw [hns]; omega, n3, fun m4 fr4 I4 => ?_⟩
      exact h m4 { A with la := as } rfl (fun c hc => .inl (fpA_pop hA c hc)) (fr1.trans (fr2.trans (fr3.trans (fr4.sub (fpA_pop hA))))) I4
  · rw [decide_eq_false q]
    refine ⟨fun z => (by cases z), fun _ => ?_⟩
    exact l_joinTail I hA hL ok hw q fun m' fr I' => h m' A rfl (fun c hc => .inl hc) fr I'
end L2.EV
set_option maxHeartbeats 1000000
/-! K01L18: the reader of sayings: take_word, begun: the two first branches (tw_first). -/
namespace L2.EV
open PySem PySem.Spec PyProof.Rows
theorem tw_first {A : RA'} {R : Rd} {w : Str} {m : Mem} {Q : QD} {X : XD} (I : RdAt m A R) (ok : RdOk R) (hj : R.aw = "join" → JoinOk R) (ha : PyData.strOk R.aw = true) (hw : wordOk w)
    (q : R.aw = "operand" ∨ R.aw = "join")
    (h : ∀ m' A', A'.r = A.r → Fro A A' m → Frm A m m' → RdAt m' A' (takeWord R w).1 → Q (.bl (takeWord R w).2) m') : r_SayingReader_take_word [some (.ref A.r), some (.str w)] m (zsOf Q X) := by
  have so : PyData.strOk "operand" = true := by decide +kernel
  have sj : PyData.strOk "join" = true := by decide +kernel
  have f1 : ∀ Q, fldG FF "awaited" (.ref A.r) m Q = Q (.str R.aw) m := fun Q => fldG_ref I.ins ffS3 rfl
  rw [r_SayingReader_take_word, sSeq]
  simp only [sIf, tOf, eBin, eFld_eq, eVar, eK, List.getElem?_cons_zero, f1, dEq_str ha so, bK]
  by_cases q1 : R.aw = "operand"
  · rw [decide_eq_true q1]
    refine ⟨fun _ => ?_, fun z => (by cases z)⟩
    have e : takeWord R w = takeOperand R w := by unfold takeWord; rw [if_pos q1]
    rw [e] at h
    simp only [sRet, eMeth, eVar, List.getElem?_cons_zero, List.getElem?_cons_succ, insQ_ref I.ins, aCons, aNil, List.append_nil]
    exact ⟨rfl, A, R, w, rfl, I, ok, hw, h⟩
  · rw [decide_eq_false q1]
    have q2 : R.aw = "join" := q.resolve_left q1
    refine ⟨fun z => (by cases z), fun _ => ?_⟩
    simp only [sNil, sSeq, sIf, tOf, eBin, eFld_eq, eVar, eK, List.getElem?_cons_zero, f1, dEq_str ha sj, bK]
    rw [decide_eq_true q2]
    refine ⟨fun _ => ?_, fun z => (by cases z)⟩
    have e : takeWord R w = takeJoin R w := by unfold takeWord; rw [if_neg q1, if_pos q2]
    rw [e] at h
    simp only [sRet, eMeth, eVar, List.getElem?_cons_zero, List.getElem?_cons_succ, insQ_ref I.ins, aCons, aNil, List.append_nil]
    exact ⟨rfl, A, R, w, rfl, I, hj q2, hw, h⟩
end L2.EV
set_option maxHeartbeats 1000000
/-! K01L19: the reader of sayings: take_word, its last part. -/
namespace L2.EV
open PySem PySem.Spec PyProof.Rows
def rWordTail : ES :=
  (sSeq (sIf (tNot (tTru (eCall g_is_term [] (aCons (eFld FF "letters" (eVar 0)) (aCons (eVar 1) aNil)))))
   (sRet (eK (.bl false)))
   sNil)
  (sSeq (sExpr (eMeth "SayingReader" "finish" g_SayingReader_finish [] (eVar 0) (aCons (eMeth "Lister" "put" g_Lister_put [] (eFld FF "lister" (eVar 0)) (aCons (eBin dAdd (eFld FF "begun" (eVar 0)) (eTup (aCons (eVar 1) aNil))) aNil)) aNil)))
  (sRet (eK (.bl true)))))
def wordTail (R : Rd) (w : Str) : Rd × Bool := if termOk R.letters (.str w) = true then (putR R (R.begun ++ [.inr w]), true) else (R, false)
theorem l_wordTail {A : RA'} {R : Rd} {w : Str} {m : Mem} {Q : QD} {X : XD} (I : RdAt m A R) (ok : RdOk R) (hb : R.begun.length ≤ 2) (hw : wordOk w)
    (h : ∀ m', Frm A m m' → RdAt m' A (wordTail R w).1 → Q (.bl (wordTail R w).2) m') : rWordTail [some (.ref A.r), some (.str w)] m (zsOf Q X) := by
  have h1 : 1 ≤ sizeLine := by rw [sizeLine_eq]; decide
  have f1 : ∀ Q, fldG FF "letters" (.ref A.r) m Q = Q (.str R.letters) m := fun Q => fldG_ref I.ins ffS6 rfl
  have f2 : ∀ Q, fldG FF "begun" (.ref A.r) m Q = Q (dN R.begun) m := fun Q => fldG_ref I.ins ffS4 rfl
  rw [rWordTail, sSeq]
  simp only [sIf, tNot, tTru, eCall, aCons, aNil, eFld_eq, eVar, List.getElem?_cons_zero, List.getElem?_cons_succ, f1, List.append_nil]
  refine ⟨R.letters, .str w, rfl, ⟨⟨_, rfl⟩, fun z e => (by cases e; exact hw), fun xs => (by intro z; cases z)⟩, ?_⟩
  simp only [truK]
  cases q : termOk R.letters (.str w) with
  | false =>
    refine ⟨fun _ => ?_, fun z => (by cases z)⟩
    have e : wordTail R w = (R, false) := by simp [wordTail, q]
    rw [e] at h
    exact h m (Frm.refl m) I
  | true =>
    refine ⟨fun z => (by cases z), fun _ => ?_⟩
    have e : wordTail R w = (putR R (R.begun ++ [.inr w]), true) := by simp [wordTail, q]
    rw [e] at h
    simp only [sNil, sSeq, sExpr]
    refine put_fin (ks := R.begun ++ [.inr w]) I ok rfl (fun q0 hq => ?_) fun m' fr I' => h m' fr I'
    have en : (dN (R.begun ++ [.inr w]) : D) = .tup (R.begun.map dK ++ [.str w]) := by simp only [dN, List.map_append]; rfl
    rw [en] at hq
    simp only [aCons, aNil, eBin, eTup, eVar, eFld_eq, List.getElem?_cons_zero, List.getElem?_cons_succ, f2, dN, dAdd]
    exact ⟨h1, by rw [List.length_map, List.length_singleton, sizeLine_eq]; omega, hq⟩
end L2.EV
set_option maxHeartbeats 1000000
/-! K01L20: the reader of sayings: take_word. -/
namespace L2.EV
open PySem PySem.Spec PyProof.Rows
theorem notin_rel {w : Str} {m : Mem} {Q : QD} (hw : PyData.strOk w = true) : dNotIn TT (.str w) c_RELATIONS m Q = Q (.bl (!(decide (w ∈ relL)))) m := by
  have hr : ∀ j ∈ relL, PyData.strOk j = true := by decide +kernel
  show dInB TT (.str w) (.ct (relL.map D.str)) m (fun b => Q (.bl (!b)) m) = _
  have e1 : inOk (.str w) (relL.map D.str) := ⟨⟨hw, by show 0 ≤ 60; decide⟩, plains_strs hr, by rw [deps_strs]; decide⟩
  have e2 : inD (.str w) (relL.map D.str) = decide (w ∈ relL) := by
    rw [Bool.eq_iff_iff, decide_eq_true_iff]
    simp only [inD, List.any_map, List.any_eq_true, Function.comp, eqD, beq_iff_eq]
    exact ⟨fun ⟨x, hx, e⟩ => e ▸ hx, fun hx => ⟨w, hx, rfl⟩⟩
  simp only [dInB, e1, true_and, e2]
theorem l_SayingReader_take_word {ds : List D} {m : Mem} {Q : QD} {X : XD} (h : g_SayingReader_take_word ds m Q X) : r_SayingReader_take_word (startD N_SayingReader_take_word.length ds) m (zsOf Q X) := by
  obtain ⟨A, R, w, rfl, I, ok, hj, hb, ha, hw, h⟩ := h
  show r_SayingReader_take_word [some (.ref A.r), some (.str w)] m (zsOf Q X)
  by_cases q : R.aw = "operand" ∨ R.aw = "join"
  · exact tw_first I ok hj ha hw q h
  obtain ⟨q1, q2⟩ := not_or.mp q
  have so : PyData.strOk "operand" = true := by decide +kernel
  have sj : PyData.strOk "join" = true := by decide +kernel
  have sr : PyData.strOk "relation" = true := by decide +kernel
  have h1 : 1 ≤ sizeLine := by rw [sizeLine_eq]; decide
  have f1 : ∀ Q, fldG FF "awaited" (.ref A.r) m Q = Q (.str R.aw) m := fun Q => fldG_ref I.ins ffS3 rfl
  have f2 : ∀ Q, fldG FF "begun" (.ref A.r) m Q = Q (dN R.begun) m := fun Q => fldG_ref I.ins ffS4 rfl
  rw [r_SayingReader_take_word, sSeq]
  simp only [sIf, tOf, eBin, eFld_eq, eVar, eK, List.getElem?_cons_zero, f1, dEq_str ha so, bK]
  rw [decide_eq_false q1]
  refine ⟨fun z => (by cases z), fun _ => ?_⟩
  simp only [sNil]
  rw [sSeq]
  simp only [sIf, tOf, eBin, eFld_eq, eVar, eK, List.getElem?_cons_zero, f1, dEq_str ha sj, bK]
  rw [decide_eq_false q2]
  refine ⟨fun z => (by cases z), fun _ => ?_⟩
  simp only [sNil]
  rw [sSeq]
  simp only [sIf, tOf, eBin, eFld_eq, eVar, eK, List.getElem?_cons_zero, List.getElem?_cons_succ, f1, dEq_str ha sr, bK]
  by_cases q3 : R.aw = "relation"
  · rw [decide_eq_true q3]
    refine ⟨fun _ => ?_, fun z => (by cases z)⟩
    rw [sSeq]
    simp only [sIf, tOf, eBin, eVar, eK, List.getElem?_cons_succ, List.getElem?_cons_zero, notin_rel hw.2, bK]
    by_cases q4 : w ∈ relL
    · rw [decide_eq_true q4]
      refine ⟨fun z => (by cases z), fun _ => ?_⟩
      have e : takeWord R w = ({ R with begun := .inr w :: R.begun, aw := "term" }, true) := by unfold takeWord; rw [if_neg q1, if_neg q2, if_pos q3, if_pos q4]
      rw [e] at h
      have en : (D.tup ([.str w] ++ R.begun.map dK) : D) = dN (.inr w :: R.begun) := rfl
      simp only [sNil, sSeq, sSetF, eBin, eTup, aCons, aNil, eFld_eq, eVar, eK, List.getElem?_cons_zero, List.getElem?_cons_succ, f2]
      refine ⟨h1, ?_⟩
      show dAdd (.tup [.str w]) (.tup (R.begun.map dK)) m _
      simp only [dAdd]
      refine ⟨by rw [List.length_map, List.length_singleton, sizeLine_eq]; omega, ?_⟩
      rw [en, fldQ_ref I.ins]
      refine ⟨ffS4, by show 6 < 1000; decide, ?_⟩
      have I1 := I.self (R' := { R with begun := .inr w :: R.begun }) rfl rfl
      have I1' : RdAt (mup m A.r (.ins "SayingReader" (putFD "begun" (dN (.inr w :: R.begun)) [("letters", .str R.letters), ("lister", .ref A.l), ("levels", .ref A.v), ("awaited", .str R.aw), ("begun", dN R.begun), ("opened", .int (R.opened : Nat))]))) A { R with begun := .inr w :: R.begun } := I1
      have fr1 : Frm A m (mup m A.r (.ins "SayingReader" (putFD "begun" (dN (.inr w :: R.begun)) [("letters", .str R.letters), ("lister", .ref A.l), ("levels", .ref A.v), ("awaited", .str R.aw), ("begun", dN R.begun), ("opened", .int (R.opened : Nat))]))) := Frm.self
      rw [fldQ_ref I1'.ins]
      refine ⟨ffS3, by show 6 < 1000; decide, ?_⟩
      exact h _ A rfl (fun c hc => .inl hc) (fr1.trans Frm.self) (I1'.self (R' := { R with begun := .inr w :: R.begun, aw := "term" }) rfl rfl)
    · rw [decide_eq_false q4]
      have e : takeWord R w = (R, false) := by unfold takeWord; rw [if_neg q1, if_neg q2, if_pos q3, if_neg q4]
      rw [e] at h
      exact ⟨fun _ => h m A rfl (fun c hc => .inl hc) (Frm.refl m) I, fun z => (by cases z)⟩
  · rw [decide_eq_false q3]
    refine ⟨fun z => (by cases z), fun _ => ?_⟩
    have e : takeWord R w = wordTail R w := by unfold takeWord wordTail; rw [if_neg q1, if_neg q2, if_neg q3]
    rw [e] at h
    exact l_wordTail I ok hb hw fun m' fr I' => h m' A rfl (fun c hc => .inl hc) fr I'
end L2.EV
set_option maxHeartbeats 1000000
/-! K01L21: the reader of sayings: __init__. -/
namespace L2.EV
open PySem PySem.Spec PyProof.Rows
theorem l_SayingReader___init__ {ds : List D} {m : Mem} {Q : QD} {X : XD} (h : g_SayingReader___init__ ds m Q X) : r_SayingReader___init__ (startD N_SayingReader___init__.length ds) m (zsOf Q X) := by
  obtain ⟨r, z, rfl, hr, h⟩ := h
  show r_SayingReader___init__ [some (.ref r), some (.str z)] m (zsOf Q X)
  simp only [r_SayingReader___init__, sSeq, sSetF, eMake, eLst, eTup, aCons, aNil, dRef, eVar, eK, List.getElem?_cons_zero, List.getElem?_cons_succ, List.length_nil, List.length_cons]
  rw [fldQ_ref hr]
  refine ⟨ffS6, by show 0 < 1000; decide, fun l hl => ?_⟩
  have nl : r ≠ l := fun e => by rw [← e, mup_same] at hl; cases hl
  have hl0 : m l = none := by rw [mup_ne nl.symm] at hl; exact hl
  refine ⟨l, rfl, mup_same, fun m1 n k fr1 hn hk La => ⟨rfl, ?_⟩⟩
  have nn : n ≠ r ∧ n ≠ l ∧ m n = none := by
    refine ⟨fun e => ?_, fun e => ?_, ?_⟩
    · rw [e, mup_ne nl, mup_same] at hn; cases hn
    · rw [e, mup_same] at hn; cases hn
    · by_cases e : n = l
      · rw [e]; exact hl0
      · by_cases e2 : n = r
        · rw [e2, mup_ne nl, mup_same] at hn; cases hn
        · rw [mup_ne e, mup_ne e2] at hn; exact hn
  have nk : k ≠ r ∧ k ≠ l ∧ m k = none := by
    refine ⟨fun e => ?_, fun e => ?_, ?_⟩
    · rw [e, mup_ne nl, mup_same] at hk; cases hk
    · rw [e, mup_same] at hk; cases hk
    · by_cases e : k = l
      · rw [e]; exact hl0
      · by_cases e2 : k = r
        · rw [e2, mup_ne nl, mup_same] at hk; cases hk
        · rw [mup_ne e, mup_ne e2] at hk; exact hk
  have r1 : m1 r = some (.ins "SayingReader" [("letters", .str z)]) := fr1 r _ (by rw [mup_ne nl, mup_same]; rfl) nl
  have up1 : ∀ c u, m c = some u → c ≠ r → m1 c = some u := fun c u e ne => fr1 c u (by rw [mup_ne (ne_new e hl0), mup_ne ne]; exact e) (ne_new e hl0)
  rw [fldQ_ref r1]
  refine ⟨ffS1, by show 1 < 1000; decide, fun v hv => ?_⟩
  have La2 : ListerAt (mup m1 r (.ins "SayingReader" (putFD "lister" (.ref l) [("letters", .str z)]))) l n k [] := ⟨by rw [mup_ne nl.symm]; exact La.ins, by rw [mup_ne nn.1]; exact La.nodes, by rw [mup_ne nk.1]; exact La.known⟩
  have up2 : ∀ c u, m c = some u → c ≠ r → mup m1 r (.ins "SayingReader" (putFD "lister" (.ref l) [("letters", .str z)])) c = some u := fun c u e ne => by rw [mup_ne ne]; exact up1 c u e ne
  have r2 : mup m1 r (.ins "SayingReader" (putFD "lister" (.ref l) [("letters", .str z)])) r = some (.ins "SayingReader" [("letters", .str z), ("lister", .ref l)]) := mup_same
  generalize mup m1 r (.ins "SayingReader" (putFD "lister" (.ref l) [("letters", .str z)])) = m2 at hv La2 up2 r2 ⊢
  refine ⟨v, rfl, mup_same, fun m3 o j fr3 ho hj oj Lv3 => ⟨rfl, Nat.le_trans (by decide : 0 + 1 ≤ 2) (by rw [sizeLine_eq]; decide), fun w hw => ?_⟩⟩
  have nv : ∀ c u, m2 c = some u → c ≠ v := fun c u e => ne_new e hv
  have up3 : ∀ c u, m2 c = some u → m3 c = some u := fun c u e => fr3 c u (by rw [mup_ne (nv c u e)]; exact e) (nv c u e)
  have ho2 : o ≠ v ∧ m2 o = none := by
    refine ⟨fun e => (by rw [e, mup_same] at ho; cases ho), ?_⟩
    by_cases e : o = v
    · rw [e]; exact hv
    · rw [mup_ne e] at ho; exact ho
  have hj2 : j ≠ v ∧ m2 j = none := by
    refine ⟨fun e => (by rw [e, mup_same] at hj; cases hj), ?_⟩
    by_cases e : j = v
    · rw [e]; exact hv
    · rw [mup_ne e] at hj; exact hj
  have n0 : ∀ c, m2 c = none → c ≠ r → m c = none := fun c e ne => by
    cases q : m c with
    | none => rfl
    | some u => rw [up2 c u q ne] at e; cases e
  have n3 : ∀ c, m3 c = none → m2 c = none := fun c e => by
    cases q : m2 c with
    | none => rfl
    | some u => rw [up3 c u q] at e; cases e
  have r3 := up3 _ _ r2
  have wr : r ≠ w := ne_new r3 hw
  rw [fldQ_ref (show mup m3 w (.lst [.ref v]) r = some (.ins "SayingReader" [("letters", .str z), ("lister", .ref l)]) by rw [mup_ne wr]; exact r3)]
  refine ⟨ffS2, by show 2 < 1000; decide, ?_⟩
  rw [fldQ_ref mup_same, mup_mup]
  refine ⟨ffS3, by show 3 < 1000; decide, Nat.zero_le _, ?_⟩
  rw [fldQ_ref mup_same, mup_mup]
  refine ⟨ffS4, by show 4 < 1000; decide, ?_⟩
  rw [fldQ_ref mup_same, mup_mup]
  refine ⟨ffS5, by show 5 < 1000; decide, ?_⟩
  have vr : v ≠ r := (ne_new r2 hv).symm
  have or' : o ≠ r := (ne_new r2 ho2.2).symm
  have jr : j ≠ r := (ne_new r2 hj2.2).symm
  have no : n ≠ o := ne_new La2.nodes ho2.2
  have nj : n ≠ j := ne_new La2.nodes hj2.2
  have wn : n ≠ w := ne_new (up3 _ _ La2.nodes) hw
  have wk : k ≠ w := ne_new (up3 _ _ La2.known) hw
  have wl : l ≠ w := ne_new (up3 _ _ La2.ins) hw
  have wo : o ≠ w := ne_new Lv3.ops hw
  have wj : j ≠ w := ne_new Lv3.joins hw
  have wv : v ≠ w := ne_new Lv3.ins hw
  have w0 : m w = none := n0 w (n3 w hw) wr.symm
  refine h _ ⟨r, l, n, k, w, [(v, o, j)]⟩ rfl (fun c u e ne => ?_) (fun c hc ne => ?_) ⟨mup_same, ⟨?_, ?_, ?_⟩, ?_, ⟨⟨?_, ?_, ?_⟩, trivial⟩, ?_, ?_⟩
  · rw [mup_ne ne, mup_ne (ne_new e w0)]; exact up3 _ _ (up2 c u e ne)
  · simp only [fpA, lists, List.mem_cons, List.mem_append, List.flatMap_cons, List.flatMap_nil, List.map_cons, List.map_nil, List.not_mem_nil, or_false, List.append_nil] at hc
    rcases hc with rfl | rfl | rfl | (rfl | rfl | rfl | rfl) | rfl
    · exact absurd rfl ne
    · exact hl0
    · exact nk.2.2
    · exact nn.2.2
    · exact w0
    · exact n0 _ ho2.2 ne
    · exact n0 _ hj2.2 ne
    · exact n0 _ hv ne
  · rw [mup_ne nl.symm, mup_ne wl]; exact up3 _ _ La2.ins
  · rw [mup_ne nn.1, mup_ne wn]; exact up3 _ _ La2.nodes
  · rw [mup_ne nk.1, mup_ne wk]; exact up3 _ _ La2.known
  · rw [mup_ne wr.symm, mup_same]; rfl
  · rw [mup_ne vr, mup_ne wv]; exact Lv3.ins
  · rw [mup_ne or', mup_ne wo]; exact Lv3.ops
  · rw [mup_ne jr, mup_ne wj]; exact Lv3.joins
  · simp only [lists, List.flatMap_cons, List.flatMap_nil, List.append_nil]
    simp [wn, no, nj, wo.symm, wj.symm, oj]
  · simp
end L2.EV
set_option maxHeartbeats 1000000
/-! K01L22: what holds of the reader's state behind any words. -/
namespace L2.EV
open PySem PySem.Spec PyProof.Rows
def sumJ (ls : List Lv) : Nat := (ls.map fun L => L.joins.length).sum
def sumN (ls : List Lv) : Nat := (ls.map fun L => L.nots).sum
structure RdInv (n : Nat) (R : Rd) : Prop where
  lv : ∃ L Ls, R.lvs = L :: Ls ∧ (R.aw = "join" → L.joins.length + 1 = L.ops.length ∧ L.nots = 0) ∧ (R.aw ≠ "join" → L.joins.length = L.ops.length) ∧ ∀ M ∈ Ls, M.joins.length = M.ops.length
  joins : ∀ L ∈ R.lvs, ∀ j ∈ L.joins, (bindOf j).isSome = true ∧ PyData.strOk j = true
  opened : R.opened + 1 = R.lvs.length + sumN R.lvs
  o30 : R.opened ≤ 30
  phi : R.ns.length + sumJ R.lvs + sumN R.lvs ≤ n
  begun : R.begun.length ≤ 2 ∧ (R.aw = "relation" → R.begun.length ≤ 1)
  aw : R.aw = "operand" ∨ R.aw = "join" ∨ R.aw = "relation" ∨ R.aw = "term"
theorem putN_le {ns : List (List Key)} {ks : List Key} : (putN ns ks).1.length ≤ ns.length + 1 := by
  unfold putN; split
  · exact Nat.le_succ _
  · simp
theorem notsS_le : ∀ (k : Nat) (ns : List (List Key)) (i : Nat), (notsS k ns i).1.length ≤ ns.length + k
  | 0, ns, i => Nat.le_refl _
  | k + 1, ns, i => by
    have h1 := notsS_le k (putN ns [.inr "not", .inl (i : Nat)]).1 (putN ns [.inr "not", .inl (i : Nat)]).2
    have h2 := putN_le (ns := ns) (ks := [.inr "not", .inl (i : Nat)])
    show (notsS k _ _).1.length ≤ _
    omega
theorem reduceS_le : ∀ (js : List Str) (b : Nat) (ns : List (List Key)) (ops : List Nat), js.length < ops.length →
    (reduceS b ns ops js).1.length + (reduceS b ns ops js).2.2.length ≤ ns.length + js.length ∧ (reduceS b ns ops js).2.1.length + js.length = ops.length + (reduceS b ns ops js).2.2.length ∧ ∃ p, js = p ++ (reduceS b ns ops js).2.2
  | [], b, ns, ops, h => by
    cases ops with
    | nil => exact absurd h (by simp)
    | cons s ops => cases ops <;> exact ⟨Nat.le_refl _, rfl, [], rfl⟩
  | j :: js, b, ns, ops, h => by
    match ops, h with
    | s :: f :: ops, h =>
      rw [reduceS]
      split
      · have ih := reduceS_le js b (putN ns [.inr j, .inl (f : Nat), .inl (s : Nat)]).1 ((putN ns [.inr j, .inl (f : Nat), .inl (s : Nat)]).2 :: ops) (by simp at h ⊢; omega)
        have h2 := putN_le (ns := ns) (ks := [.inr j, .inl (f : Nat), .inl (s : Nat)])
        obtain ⟨i1, i2, p, i3⟩ := ih
        refine ⟨by simp only [List.length_cons]; omega, by simp only [List.length_cons] at i2 ⊢; omega, j :: p, by rw [List.cons_append, ← i3]⟩
      · exact ⟨Nat.le_refl _, rfl, [], rfl⟩
    | [s], h => exact absurd h (by simp)
    | [], h => exact absurd h (by simp)
theorem sumJ_cons {L : Lv} {Ls : List Lv} : sumJ (L :: Ls) = L.joins.length + sumJ Ls := by simp [sumJ]
theorem sumN_cons {L : Lv} {Ls : List Lv} : sumN (L :: Ls) = L.nots + sumN Ls := by simp [sumN]
theorem s_oj : ("operand" : Str) ≠ "join" := by decide +kernel
theorem s_rj : ("relation" : Str) ≠ "join" := by decide +kernel
theorem s_tj : ("term" : Str) ≠ "join" := by decide +kernel
theorem s_or : ("operand" : Str) ≠ "relation" := by decide +kernel
theorem s_tr : ("term" : Str) ≠ "relation" := by decide +kernel
theorem s_jr : ("join" : Str) ≠ "relation" := by decide +kernel
/-- an operand taken up: R stands as if an operand were awaited -/
theorem RdInv.finish {n : Nat} {R : Rd} {i : Nat} (h : RdInv n { R with aw := "operand" }) : RdInv n (finishR R i) := by
  obtain ⟨⟨L, Ls, hL, _, h2, h3⟩, hj, ho, h30, hp, hb, _⟩ := h
  obtain ⟨r1, r2, r3, r4, r5, r6⟩ := R
  simp only at hL hj ho h30 hp hb h2
  subst hL
  have e2 := h2 s_oj
  have hn := notsS_le L.nots r2 i
  rw [sumN_cons] at ho hp
  rw [sumJ_cons] at hp
  refine ⟨⟨_, Ls, rfl, fun _ => ⟨by simp only [List.length_cons]; omega, rfl⟩, fun z => absurd rfl z, h3⟩, ?_, ?_, ?_, ?_, ⟨hb.1, fun z => absurd z s_jr⟩, .inr (.inl rfl)⟩
  · intro M hM
    rcases List.mem_cons.mp hM with rfl | hM
    · exact hj L (List.mem_cons_self ..)
    · exact hj M (List.mem_cons_of_mem _ hM)
  · show r6 - L.nots + 1 = (_ :: Ls).length + sumN (_ :: Ls)
    rw [sumN_cons]; simp only [List.length_cons] at ho ⊢; omega
  · show r6 - L.nots ≤ 30
    omega
  · show (notsS L.nots r2 i).1.length + sumJ (_ :: Ls) + sumN (_ :: Ls) ≤ n
    rw [sumN_cons, sumJ_cons]; simp only; omega
theorem RdInv.mono {n k : Nat} {R : Rd} (h : RdInv n R) (e : n ≤ k) : RdInv k R := ⟨h.lv, h.joins, h.opened, h.o30, Nat.le_trans h.phi e, h.begun, h.aw⟩
theorem RdInv.opq {n : Nat} {R : Rd} (h : RdInv n R) (q : R.aw ≠ "join") : RdInv n { R with aw := "operand" } :=
  ⟨let ⟨L, Ls, a, b, c, d⟩ := h.lv; ⟨L, Ls, a, fun z => absurd z s_oj, fun _ => c q, d⟩, h.joins, h.opened, h.o30, h.phi, ⟨h.begun.1, fun z => absurd z s_or⟩, .inl rfl⟩
theorem RdInv.putR {n : Nat} {R : Rd} {ks : List Key} (h : RdInv n R) (q : R.aw ≠ "join") : RdInv (n + 1) (putR R ks) := by
  refine RdInv.finish ?_
  have h' := h.opq q
  refine ⟨h'.lv, h'.joins, h'.opened, h'.o30, ?_, h'.begun, h'.aw⟩
  have := putN_le (ns := R.ns) (ks := ks)
  have hp := h.phi
  show (putN R.ns ks).1.length + sumJ R.lvs + sumN R.lvs ≤ n + 1
  omega
theorem RdInv.operand {n : Nat} {R : Rd} {w : Str} (h : RdInv n R) (q : R.aw = "operand") (ok : (takeOperand R w).2 = true) : RdInv (n + 1) (takeOperand R w).1 := by
  have nj : R.aw ≠ "join" := by rw [q]; exact s_oj
  obtain ⟨L, Ls, hL, h1, h2, h3⟩ := h.lv
  unfold takeOperand at ok ⊢
  split
  · rename_i a
    rw [if_pos a] at ok
    split
    · rename_i b; rw [if_pos b] at ok; cases ok
    · rename_i b
      rw [if_neg b] at ok
      split
      · refine ⟨⟨_, R.lvs, rfl, fun z => absurd z nj, fun _ => rfl, ?_⟩, ?_, ?_, ?_, ?_, h.begun, h.aw⟩
        · rw [hL]; intro M hM
          rcases List.mem_cons.mp hM with rfl | hM
          · exact h2 nj
          · exact h3 M hM
        · intro M hM j hj
          rcases List.mem_cons.mp hM with rfl | hM
          · cases hj
          · exact h.joins M hM j hj
        · show R.opened + 1 + 1 = (_ :: R.lvs).length + sumN (_ :: R.lvs)
          have := h.opened
          rw [sumN_cons, List.length_cons]; simp only; omega
        · show R.opened + 1 ≤ 30
          have := h.o30; omega
        · show R.ns.length + sumJ (_ :: R.lvs) + sumN (_ :: R.lvs) ≤ n + 1
          rw [sumJ_cons, sumN_cons]; have := h.phi; simp only [List.length_nil]; omega
      · rw [hL]
        have hop := h.opened; have hph := h.phi; have h30 := h.o30
        rw [hL, sumN_cons] at hop
        rw [hL, sumN_cons, sumJ_cons] at hph
        refine ⟨⟨_, Ls, rfl, fun z => absurd z nj, fun _ => h2 nj, h3⟩, ?_, ?_, ?_, ?_, h.begun, h.aw⟩
        · intro M hM
          rcases List.mem_cons.mp hM with rfl | hM
          · exact h.joins L (by rw [hL]; exact List.mem_cons_self ..)
          · exact h.joins M (by rw [hL]; exact List.mem_cons_of_mem _ hM)
        · show R.opened + 1 + 1 = (_ :: Ls).length + sumN (_ :: Ls)
          rw [sumN_cons]; simp only [List.length_cons] at hop ⊢; omega
        · show R.opened + 1 ≤ 30
          omega
        · show R.ns.length + sumJ (_ :: Ls) + sumN (_ :: Ls) ≤ n + 1
          rw [sumJ_cons, sumN_cons]; simp only; omega
  · split
    · exact h.putR nj
    · split
      · exact ⟨⟨L, Ls, hL, fun z => absurd z s_tj, fun _ => h2 nj, h3⟩, h.joins, h.opened, h.o30, Nat.le_succ_of_le h.phi, ⟨(by show 1 ≤ 2; omega), fun z => absurd z s_tr⟩, .inr (.inr (.inr rfl))⟩
      · exact ⟨⟨L, Ls, hL, fun z => absurd z s_rj, fun _ => h2 nj, h3⟩, h.joins, h.opened, h.o30, Nat.le_succ_of_le h.phi, ⟨(by show 1 ≤ 2; omega), fun z => (by show 1 ≤ 1; omega)⟩, .inr (.inr (.inl rfl))⟩
theorem RdInv.join {n : Nat} {R : Rd} {w : Str} (h : RdInv n R) (q : R.aw = "join") (hw : PyData.strOk w = true) (ok : (takeJoin R w).2 = true) : RdInv (n + 1) (takeJoin R w).1 := by
  obtain ⟨L, Ls, hL, h1, h2, h3⟩ := h.lv
  obtain ⟨e1, e2⟩ := h1 q
  have hop := h.opened; have hph := h.phi; have h30 := h.o30
  rw [hL, sumN_cons] at hop
  rw [hL, sumN_cons, sumJ_cons] at hph
  simp only [List.length_cons] at hop
  have hj0 := h.joins
  rw [hL] at hj0
  simp only [takeJoin, hL] at ok ⊢
  split at ok
  · rename_i a
    rw [if_pos a]
    cases hLs : Ls with
    | nil => rw [hLs] at ok; cases ok
    | cons M Ms =>
      rw [hLs] at hop hph hj0 h3
      simp only [List.length_cons] at hop
      have r0 := reduceS_le L.joins 0 R.ns L.ops (by omega)
      simp only [reduceR, hL, hLs]
      refine RdInv.mono (n := n) (RdInv.finish ?_) (Nat.le_succ n)
      refine ⟨⟨M, Ms, rfl, fun z => absurd z s_oj, fun _ => h3 M (List.mem_cons_self ..), fun M' hM' => h3 M' (List.mem_cons_of_mem _ hM')⟩, fun M' hM' => hj0 M' (List.mem_cons_of_mem _ hM'), ?_, ?_, ?_, ⟨h.begun.1, fun z => absurd z s_or⟩, .inl rfl⟩
      · show R.opened - 1 + 1 = (M :: Ms).length + sumN (M :: Ms)
        simp only [List.length_cons]; omega
      · show R.opened - 1 ≤ 30
        omega
      · show (reduceS 0 R.ns L.ops L.joins).1.length + sumJ (M :: Ms) + sumN (M :: Ms) ≤ n
        omega
  · rename_i a
    rw [if_neg a]
    cases hb : bindOf w with
    | none => rw [hb] at ok; cases ok
    | some b =>
      rw [hb] at ok
      simp only at ok ⊢
      split at ok
      · cases ok
      · rename_i c
        rw [if_neg c]
        have r0 := reduceS_le L.joins b R.ns L.ops (by omega)
        obtain ⟨r1, r2, p, r3⟩ := r0
        simp only [reduceR, hL]
        refine ⟨⟨_, Ls, rfl, fun z => absurd z s_oj, fun _ => ?_, h3⟩, ?_, ?_, h30, ?_, ⟨h.begun.1, fun z => absurd z s_or⟩, .inl rfl⟩
        · simp only [List.length_cons]; omega
        · intro M hM j hj
          rcases List.mem_cons.mp hM with rfl | hM
          · rcases List.mem_cons.mp hj with rfl | hj
            · exact ⟨by rw [hb]; rfl, hw⟩
            · exact hj0 L (List.mem_cons_self ..) j (by rw [r3]; exact List.mem_append_right _ hj)
          · exact hj0 M (List.mem_cons_of_mem _ hM) j hj
        · show R.opened + 1 = (_ :: Ls).length + sumN (_ :: Ls)
          rw [sumN_cons]; simp only [List.length_cons]; omega
        · show (reduceS b R.ns L.ops L.joins).1.length + sumJ (_ :: Ls) + sumN (_ :: Ls) ≤ n + 1
          rw [sumJ_cons, sumN_cons]; simp only [List.length_cons]; omega
theorem RdInv.word {n : Nat} {R : Rd} {w : Str} (h : RdInv n R) (hw : PyData.strOk w = true) (ok : (takeWord R w).2 = true) : RdInv (n + 1) (takeWord R w).1 := by
  obtain ⟨L, Ls, hL, h1, h2, h3⟩ := h.lv
  unfold takeWord at ok ⊢
  split
  · rename_i a; rw [if_pos a] at ok; exact h.operand a ok
  · rename_i a
    rw [if_neg a] at ok
    split
    · rename_i b; rw [if_pos b] at ok; exact h.join b hw ok
    · rename_i b
      rw [if_neg b] at ok
      split
      · rename_i c
        rw [if_pos c] at ok
        split
        · exact ⟨⟨L, Ls, hL, fun z => absurd z s_tj, fun _ => h2 b, h3⟩, h.joins, h.opened, h.o30, Nat.le_succ_of_le h.phi, ⟨by have := h.begun.2 c; simp only [List.length_cons]; omega, fun z => absurd z s_tr⟩, .inr (.inr (.inr rfl))⟩
        · rename_i d; rw [if_neg d] at ok; cases ok
      · rename_i c
        rw [if_neg c] at ok
        split
        · exact h.putR b
        · rename_i d; rw [if_neg d] at ok; cases ok
theorem RdInv.new (z : Str) : RdInv 0 (newRd z) := ⟨⟨⟨[], [], 0⟩, [], rfl, fun z => absurd z s_oj, fun _ => rfl, fun _ h => by cases h⟩, fun L hL j hj =>
  (by rcases List.mem_cons.mp hL with rfl | hL
      · cases hj
      · cases hL), rfl, Nat.zero_le _, Nat.le_refl _, ⟨Nat.zero_le _, fun _ => Nat.zero_le _⟩, .inl rfl⟩
theorem RdInv.okR {n : Nat} {R : Rd} (h : RdInv n R) (hn : n < 999990) : RdOk R := by
  obtain ⟨L, Ls, hL, h1, h2, h3⟩ := h.lv
  have hop := h.opened; have hph := h.phi; have h30 := h.o30
  rw [hL, sumN_cons] at hop
  rw [hL, sumN_cons, sumJ_cons] at hph
  simp only [List.length_cons] at hop
  refine ⟨⟨L, Ls, hL, by omega, by omega, ?_⟩, by rw [hL, List.length_cons]; omega, h30⟩
  by_cases q : R.aw = "join"
  · have := (h1 q).1; omega
  · have := h2 q; omega
theorem RdInv.okJ {n : Nat} {R : Rd} (h : RdInv n R) (hn : n < 999990) (q : R.aw = "join") : JoinOk R := by
  obtain ⟨L, Ls, hL, h1, h2, h3⟩ := h.lv
  have hop := h.opened; have hph := h.phi; have h30 := h.o30
  have hj0 := h.joins
  rw [hL] at hj0
  rw [hL, sumN_cons] at hop
  rw [hL, sumN_cons, sumJ_cons] at hph
  simp only [List.length_cons] at hop
  refine ⟨⟨L, Ls, hL, hj0 L (List.mem_cons_self ..), (h1 q).1, by have := (h1 q).1; omega, by omega, fun M Ms e => ?_⟩, h30, by rw [q]; decide +kernel⟩
  subst e
  rw [sumN_cons] at hop hph
  rw [sumJ_cons] at hph
  simp only [List.length_cons] at hop
  have := h3 M (List.mem_cons_self ..)
  exact ⟨by omega, by omega, by omega⟩
theorem RdInv.awOk {n : Nat} {R : Rd} (h : RdInv n R) : PyData.strOk R.aw = true := by
  rcases h.aw with e | e | e | e <;> rw [e] <;> decide +kernel
end L2.EV
set_option maxHeartbeats 1000000
/-! K01S2: promises of the defs that read whole texts and of the law's own defs. -/
namespace L2.EV
open PySem PySem.Spec PyProof.Rows
def mayEnd (R : Rd) : Bool := decide (R.aw = "join") && decide (R.lvs.length = 1)
abbrev Ans : Type := Except Int (List (List Key))
def readGo (l : List Nat) : Nat → Nat → Str → Rd → Ans
  | 0, _, _, _ => .error (-2)
  | f + 1, at_, last, R => match scanF l at_ last with
    | .error k => .error (k : Nat)
    | .ok (w, b, e) => if w = "" then (if mayEnd R = true then .ok (reduceR R 0).ns else .error (l.length : Nat)) else if (takeWord R w).2 = true then readGo l f e w (takeWord R w).1 else .error (b : Nat)
/-- how a text is read -/
def readS (z : Str) (l : List Nat) : Ans := readGo l (l.length + 1) 0 "" (newRd z)
def readD (z : Str) : D → Ans
  | .str t => readS z t.cps.toList
  | _ => .error (-1)
def ansQ (r : Ans) (m : Mem) (Q : QD) (X : XD) : Prop := match r with
  | .ok ns => Q (.tup (ns.map dN)) m
  | .error k => ∀ p, m p = none → X "BadText" (some p) (mup m p (.xd [("at", .int k)]))
def textOk (m : Mem) (d : D) : Prop := typed m d ∧ ∀ t, d = .str t → t.length ≤ 900000
def g_read_by : SPEC := fun ds m Q X => ∃ A z d, ds = [.ref A.r, d] ∧ RdAt m A (newRd z) ∧ textOk m d ∧ ∀ m', Frm A m m' → ansQ (readD z d) m' Q X
def g_read_over : SPEC := fun ds m Q X => ∃ z d, ds = [.str z, d] ∧ textOk m d ∧ ansQ (readD z d) m Q X
def g_read_saying : SPEC := fun ds m Q X => ∃ c d, ds = [c, d] ∧ typed m c ∧ textOk m d ∧ (namesOk c = false → ∀ p, m p = none → X "BadNames" (some p) (mup m p (.xd [("thing", c)]))) ∧ ∀ z, c = .str z → namesOk c = true → ansQ (readD z d) m Q X
end L2.EV
set_option maxHeartbeats 1000000
namespace L2.EV
open PySem PySem.Spec PyProof.Rows
/-! read_by -/
abbrev N_read_by : List Str := ["reader", "text", "at", "last", "word", "begin"]
abbrev P_read_by : List Str := ["reader", "text"]
theorem S_read_by : FnScope N_read_by P_read_by (defScope (top 27)) := ⟨rfl, rfl, rfl, by decide +kernel, rfl, by decide +kernel, by decide +kernel⟩
def r_read_by : ES :=
  (sSeq (sIf (tNot (tTru (eB bIsi (aCons (eVar 1) (aCons (eK (.ty "str")) aNil)))))
   (sRaise "BadText" "at" okInt (eUn dNeg (eK (.int 1))))
   sNil)
  (sSeq (sAsg (gN 2) (eK (.int 0)))
  (sSeq (sAsg (gN 3) (eK (.str "")))
  (sWhile (tTru (eK (.bl true)))
   (sSeq (sAsg (gT 3 (gsCons (gN 4) (gsCons (gN 5) (gsCons (gN 2) gsNil)))) (eCall g_scanned [] (aCons (eVar 1) (aCons (eVar 2) (aCons (eVar 3) aNil)))))
   (sSeq (sIf (tOf (eBin dEq (eVar 4) (eK (.str ""))))
    (sSeq (sIf (tNot (tTru (eMeth "SayingReader" "may_end" g_SayingReader_may_end [] (eVar 0) aNil)))
     (sRaise "BadText" "at" okInt (eB bLen (aCons (eVar 1) aNil)))
     sNil)
    (sRet (eMeth "SayingReader" "whole" g_SayingReader_whole [] (eVar 0) aNil)))
    sNil)
   (sSeq (sIf (tNot (tTru (eMeth "SayingReader" "take_word" g_SayingReader_take_word [] (eVar 0) (aCons (eVar 4) aNil))))
    (sRaise "BadText" "at" okInt (eVar 5))
    sNil)
   (sAsg (gN 3) (eVar 4)))))))))
theorem w_read_by {P : Program} {w : World} {K : PySem.W.Frag} {mg : Str → Option Value} {base : Heap} {k : Nat} {f : Addr} {cdv : Value} {A : Around} {outer : List Env} {s : Shared} {H : Hp} {E : XK} (M : Md P K w mg) (F_SayingReader_may_end : FnM P w K mg base (k + 1) 1 g_SayingReader_may_end [] "SayingReader" "may_end") (F_SayingReader_take_word : FnM P w K mg base (k + 1) 2 g_SayingReader_take_word [] "SayingReader" "take_word") (F_SayingReader_whole : FnM P w K mg base (k + 1) 1 g_SayingReader_whole [] "SayingReader" "whole") (F_scanned : FnG P w K mg base (k + 1) 3 g_scanned [] "scanned")
    (hr : Room (k + 1) (A.deeper (envOfC "read_by" (defScope (top 27)) s.heap.objs.size f cdv))) :
    PSs (cxOf (L2.CX P w) P w K mg base N_read_by "read_by" (defScope (top 27)) f cdv A outer s H E) (defBody (top 27)) (RS K (wE E) r_read_by) := by
  have S := S_read_by
  exact (sv_seq (sv_if (tv_not (tv_tru (b_isi M.n_isinstance (av_cons (ev_var 1) (av_cons (ev_ty M.n_str (by decide +kernel)) av_nil)))))
   (sv_one (sv_raise M.e_BadText rfl hr (takes_of rfl rfl rfl rfl) (ev_neg ev_int)))
   sv_nil)
  (sv_seq (sv_set 2 S.nd ev_int)
  (sv_seq (sv_set 3 S.nd ev_str)
  (sv_one (sv_while (passes_of rfl) (tv_tru ev_bl)
   (sv_seq (sv_asg (ev_call F_scanned hr (takes_of rfl rfl rfl rfl) (av_cons (ev_var 1) (av_cons (ev_var 2) (av_cons (ev_var 3) av_nil)))) (gv_tup rfl (gv_cons (gv_name 4 S.nd) (gv_cons (gv_name 5 S.nd) (gv_cons (gv_name 2 S.nd) gv_nil)))))
   (sv_seq (sv_if (ev_tcmp (o_eq (roomU hr)) (ev_var 4) ev_str)
    (sv_seq (sv_if (tv_not (tv_tru (ev_meth0 (pl := _) F_SayingReader_may_end hr (takes_of rfl rfl rfl rfl) (ev_var 0))))
     (sv_one (sv_raise M.e_BadText rfl hr (takes_of rfl rfl rfl rfl) (b_len M.n_len (av_cons (ev_var 1) av_nil))))
     sv_nil)
    (sv_one (sv_ret (ev_meth0 (pl := _) F_SayingReader_whole hr (takes_of rfl rfl rfl rfl) (ev_var 0)))))
    sv_nil)
   (sv_seq (sv_if (tv_not (tv_tru (ev_meth (pl := _) F_SayingReader_take_word hr (takes_of rfl rfl rfl rfl) (ev_var 0) (av_cons (ev_var 4) av_nil))))
    (sv_one (sv_raise M.e_BadText rfl hr (takes_of rfl rfl rfl rfl) (ev_var 5)))
    sv_nil)
   (sv_one (sv_set 3 S.nd (ev_var 4)))))))))))
end L2.EV
set_option maxHeartbeats 1000000
/-! K01L23: reading a whole text: read_by. -/
namespace L2.EV
open PySem PySem.Spec PyProof.Rows
theorem s_emp : ("" : Str) = ⟨#[]⟩ := by decide +kernel
theorem ne_emp {a : Nat} {l : List Nat} : (⟨(a :: l).toArray⟩ : Str) ≠ "" := by
  rw [s_emp]; intro h; have := congrArg (fun z : Str => z.cps.toList) h; simp at this
theorem isLow_lt {c : Nat} (h : isLow c = true) : c < 0x110000 := by
  simp only [isLow, Bool.and_eq_true, decide_eq_true_eq] at h; omega
theorem strOk_low {l : List Nat} (h : ∀ c ∈ l, isLow c = true) : PyData.strOk ⟨l.toArray⟩ = true := by
  simp only [PyData.strOk, List.size_toArray, List.all_toArray', List.all_eq_true, decide_eq_true_eq]
  exact fun c hc => isLow_lt (h c hc)
theorem tw_all : ∀ {l : List Nat}, ∀ c ∈ l.takeWhile isLow, isLow c = true := fun c hc => by
  have := List.all_takeWhile (p := isLow) (l := ‹_›)
  exact List.all_eq_true.mp this c hc
/-- what a word is -/
theorem scanW_ok {l : List Nat} {h : Nat} {w : Str} {b e : Nat} (s : scanW l h = .ok (w, b, e)) (hh : h ≤ l.length) (hl : l.length ≤ 1000000) : wordOk w ∧ e ≤ l.length ∧ h ≤ b ∧ b ≤ l.length ∧ (w ≠ "" → h < e) := by
  unfold scanW at s
  cases q : l[h]? with
  | none =>
    rw [q] at s
    cases s
    exact ⟨⟨Nat.zero_le _, by decide +kernel⟩, hh, Nat.le_refl _, hh, fun z => absurd rfl z⟩
  | some c =>
    rw [q] at s
    have hlt : h < l.length := by
      have := (List.getElem?_eq_some_iff.mp q).1; exact this
    simp only at s
    split at s
    · rename_i hc
      cases s
      refine ⟨⟨by show 1 ≤ sizeLine; rw [sizeLine_eq]; decide, by rcases hc with rfl | rfl <;> decide +kernel⟩, hlt, Nat.le_refl _, hh, fun _ => Nat.lt_succ_self _⟩
    · split at s
      · cases s
      · rename_i hne
        cases s
        have h1 := tw_len (l.drop h)
        rw [List.length_drop] at h1
        have h2 : 0 < ((l.drop h).takeWhile isLow).length := List.length_pos_iff.mpr hne
        refine ⟨⟨?_, strOk_low tw_all⟩, by omega, Nat.le_refl _, hh, fun _ => by omega⟩
        show (List.toArray _).size ≤ _
        rw [List.size_toArray, sizeLine_eq]; omega
theorem scanF_ok {l : List Nat} {h : Nat} {last w : Str} {b e : Nat} (s : scanF l h last = .ok (w, b, e)) (hh : h ≤ l.length) (hl : l.length ≤ 1000000) : wordOk w ∧ e ≤ l.length ∧ h ≤ b ∧ b ≤ l.length ∧ (w ≠ "" → h < e) := by
  unfold scanF at s
  split at s
  · exact scanW_ok s hh hl
  · split at s
    · exact scanW_ok s hh hl
    · rename_i q
      have hlt : h < l.length := (List.getElem?_eq_some_iff.mp q).1
      split at s
      · cases s
      · cases s
      · obtain ⟨h1, h2, h3, h4, h5⟩ := scanW_ok s (by omega) hl
        exact ⟨h1, h2, by omega, h4, fun z => by have := h5 z; omega⟩
    · exact scanW_ok s hh hl
    · cases s
/-! the loop -/
def rByBody : ES := (sSeq (sAsg (gT 3 (gsCons (gN 4) (gsCons (gN 5) (gsCons (gN 2) gsNil)))) (eCall g_scanned [] (aCons (eVar 1) (aCons (eVar 2) (aCons (eVar 3) aNil)))))
   (sSeq (sIf (tOf (eBin dEq (eVar 4) (eK (.str ""))))
    (sSeq (sIf (tNot (tTru (eMeth "SayingReader" "may_end" g_SayingReader_may_end [] (eVar 0) aNil)))
     (sRaise "BadText" "at" okInt (eB bLen (aCons (eVar 1) aNil)))
     sNil)
    (sRet (eMeth "SayingReader" "whole" g_SayingReader_whole [] (eVar 0) aNil)))
    sNil)
   (sSeq (sIf (tNot (tTru (eMeth "SayingReader" "take_word" g_SayingReader_take_word [] (eVar 0) (aCons (eVar 4) aNil))))
    (sRaise "BadText" "at" okInt (eVar 5))
    sNil)
   (sAsg (gN 3) (eVar 4)))))
theorem by_loop {t : Str} {Q : QD} {X : XD} {A0 : RA'} {m0 : Mem} (ht : t.length ≤ 900000) (hs : PyData.strOk t = true) {res : Ans} (hQ : ∀ m', Frm A0 m0 m' → ansQ res m' Q X) : ∀ (f : Nat) (at_ : Nat) (last : Str) (R : Rd) (A : RA') (m : Mem) (wo bo : Option D), t.length + 1 ≤ f + at_ → at_ ≤ t.length → PyData.strOk last = true →
    RdInv at_ R → RdAt m A R → A.r = A0.r → Frm A0 m0 m → Fro A0 A m0 → readGo t.cps.toList f at_ last R = res →
    whileN (tTru (eK (.bl true))) rByBody f [some (.ref A0.r), some (.str t), some (.int (at_ : Nat)), some (.str last), wo, bo] m (zsOf Q X)
  | 0, at_, last, R, A, m, wo, bo, h1, h2, _, _, _, _, _, _, _ => absurd h2 (by omega)
  | f + 1, at_, last, R, A, m, wo, bo, h1, h2, hl, inv, I, er, fr, fo, hr => by
    have el : t.cps.toList.length = t.length := by rw [Array.length_toList]; rfl
    have se : PyData.strOk "" = true := by decide +kernel
    have lk : ∀ mth : Str, mth = "may_end" ∨ mth = "whole" ∨ mth = "take_word" → ([("letters", .str R.letters), ("lister", .ref A.l), ("levels", .ref A.v), ("awaited", .str R.aw), ("begun", dN R.begun), ("opened", .int (R.opened : Nat))] : List (Str × D)).lookup mth = none := by
      intro mth h; rcases h with rfl | rfl | rfl <;> rfl
    have frA : ∀ m', Frm A m m' → Frm A0 m0 m' := fun m' h c u e nc => h c u (fr c u e nc) fun z => by
      rcases fo c z with z | z
      · exact nc z
      · rw [e] at z; cases z
    rw [whileN]
    simp only [tTru, eK, truK]
    refine ⟨fun _ => ?_, fun z => (by cases z)⟩
    rw [rByBody, sSeq]
    simp only [sAsg, eCall, aCons, aNil, eVar, List.getElem?_cons_zero, List.getElem?_cons_succ, List.append_nil]
    refine ⟨t, at_, last, rfl, h2, by omega, hs, hl, ?_⟩
    rw [readGo] at hr
    cases hsc : scanF t.cps.toList at_ last with
    | error k =>
      rw [hsc] at hr
      simp only at hr ⊢
      subst hr
      exact hQ m fr
    | ok r =>
      obtain ⟨w, b, e⟩ := r
      obtain ⟨w1, w2, w3, w4, w5⟩ := scanF_ok hsc (by omega) (by omega)
      rw [el] at w2 w4
      rw [hsc] at hr
      simp only [gT, gsCons, gN, gsNil, List.set_cons_succ, List.set_cons_zero] at hr ⊢
      refine ⟨rfl, ?_⟩
      rw [sSeq]
      simp only [sIf, tOf, eBin, eVar, eK, List.getElem?_cons_zero, List.getElem?_cons_succ, dEq_str w1.2 se, bK]
      have hins := I.ins
      rw [er] at hins
      by_cases q : w = ""
      · rw [decide_eq_true q]
        rw [if_pos q] at hr
        refine ⟨fun _ => ?_, fun z => (by cases z)⟩
        rw [sSeq]
        simp only [sIf, tNot, tTru, eMeth, eVar, List.getElem?_cons_zero, List.getElem?_cons_succ]
        rw [insQ_ref hins]
        refine ⟨lk _ (.inl rfl), A, R, by rw [er]; rfl, I, inv.awOk, ?_⟩
        show truK _ (.bl (mayEnd R)) m
        simp only [truK]
        cases hm : mayEnd R with
        | false =>
          rw [hm] at hr
          refine ⟨fun _ => ?_, fun z => (by cases z)⟩
          simp only [sRaise, eB, aCons, aNil, eVar, List.getElem?_cons_succ, List.getElem?_cons_zero, bLen, d1Q, lenQ]
          have hr' : Except.error ((t.cps.toList.length : Nat) : Int) = res := hr
          rw [el] at hr'
          subst hr'
          exact ⟨by rw [sizeLine_eq]; omega, log_small (by omega), hQ m fr⟩
        | true =>
          rw [hm] at hr
          refine ⟨fun z => (by cases z), fun _ => ?_⟩
          simp only [mayEnd, Bool.and_eq_true, decide_eq_true_eq] at hm
          simp only [sNil, sRet, eMeth, eVar, List.getElem?_cons_zero]
          rw [insQ_ref hins]
          refine ⟨lk _ (.inr (.inl rfl)), ?_⟩
          obtain ⟨L, Ls, hL, j1, j2, j3, j4, j5⟩ := (inv.okJ (by omega) hm.1).top
          have e0 : Ls = [] := by
            have := hm.2; rw [hL] at this; simpa using this
          subst e0
          refine ⟨A, R, L, by rw [er]; rfl, I, hL, fun j hj => (j1 j hj).1, j2, j3, j4, fun m' fr' => ?_⟩
          have hr' : Except.ok (reduceR R 0).ns = res := hr
          subst hr'
          exact hQ m' (frA m' fr')
      · rw [decide_eq_false q]
        rw [if_neg q] at hr
        refine ⟨fun z => (by cases z), fun _ => ?_⟩
        simp only [sNil]
        rw [sSeq]
        simp only [sIf, tNot, tTru, eMeth, aCons, aNil, eVar, List.getElem?_cons_zero, List.getElem?_cons_succ]
        rw [insQ_ref hins]
        refine ⟨lk _ (.inr (.inr rfl)), A, R, w, by rw [er]; rfl, I, inv.okR (by omega), fun q => inv.okJ (by omega) q, inv.begun.1, inv.awOk, w1, fun m' A' er' fo' fr' I' => ?_⟩
        simp only [truK]
        cases ht' : (takeWord R w).2 with
        | false =>
          rw [ht'] at hr
          refine ⟨fun _ => ?_, fun z => (by cases z)⟩
          simp only [sRaise, eVar, List.getElem?_cons_succ, List.getElem?_cons_zero]
          have hr' : Except.error ((b : Nat) : Int) = res := hr
          subst hr'
          exact ⟨log_small (by omega), hQ m' (frA m' fr')⟩
        | true =>
          rw [ht'] at hr
          refine ⟨fun z => (by cases z), fun _ => ?_⟩
          simp only [sNil, sAsg, gN, eVar, List.getElem?_cons_succ, List.getElem?_cons_zero, List.set_cons_succ, List.set_cons_zero]
          refine ⟨m', Sub.refl m', ?_⟩
          refine by_loop ht hs hQ f e w (takeWord R w).1 A' m' _ _ (by have := w5 q; omega) w2 w1.2 ((inv.word w1.2 ht').mono (by have := w5 q; omega)) I' (er'.trans er) (frA m' fr') (fun c hc => ?_) hr
          rcases fo' c hc with z | z
          · exact fo c z
          · by_cases n : c ∈ fpA A0
            · exact .inl n
            · refine .inr ?_
              cases e0 : m0 c with
              | none => rfl
              | some u => rw [fr c u e0 n] at z; cases z
theorem l_read_by {ds : List D} {m : Mem} {Q : QD} {X : XD} (h : g_read_by ds m Q X) : r_read_by (startD N_read_by.length ds) m (zsOf Q X) := by
  obtain ⟨A, z, d, rfl, I, ⟨⟨⟨ty, hty⟩, hst, _⟩, hle⟩, hQ⟩ := h
  show r_read_by [some (.ref A.r), some d, none, none, none, none] m (zsOf Q X)
  rw [r_read_by, sSeq]
  simp only [sIf, tNot, tTru, eB, aCons, aNil, eVar, eK, List.getElem?_cons_zero, List.getElem?_cons_succ, bIsi, d2Q, isiQ, hty, tysOf]
  refine ⟨by decide +kernel, ?_⟩
  simp only [truK, List.any_cons, List.any_nil, Bool.or_false]
  by_cases q : ∃ t, d = .str t
  · obtain ⟨t, rfl⟩ := q
    have e1 : ty = "str" := by simpa [tyN] using hty.symm
    subst e1
    rw [show isTy "str" "str" = true by decide +kernel]
    refine ⟨fun z => (by cases z), fun _ => ?_⟩
    obtain ⟨s1, s2⟩ := hst t rfl
    have el : t.cps.toList.length = t.length := by rw [Array.length_toList]; rfl
    simp only [sNil, sSeq, sAsg, gN, eK, List.set_cons_succ, List.set_cons_zero, sWhile]
    exact ⟨t.length + 1, by_loop (hle t rfl) s2 hQ (t.length + 1) 0 "" (newRd z) A m none none (Nat.le_refl _) (Nat.zero_le _) (by decide +kernel) (RdInv.new z) I rfl (Frm.refl m) (fun c hc => .inl hc) (by show readGo _ _ _ _ _ = readGo _ _ _ _ _; rw [el])⟩
  · have e1 : isTy ty "str" = false := by
      cases d with
      | str t => exact absurd ⟨t, rfl⟩ q
      | ref a =>
        simp only [tyN] at hty
        split at hty <;> cases hty <;> decide +kernel
      | ty n => cases hty
      | glob n => cases hty
      | _ => simp only [tyN, Option.some.injEq] at hty; subst hty; decide +kernel
    rw [e1]
    refine ⟨fun _ => ?_, fun z => (by cases z)⟩
    simp only [sRaise, eUn, eK, dNeg]
    have e2 : readD z d = .error (-1) := by
      cases d with
      | str t => exact absurd ⟨t, rfl⟩ q
      | _ => rfl
    have := hQ m (Frm.refl m)
    rw [e2] at this
    exact ⟨(by show ((-1 : Int).natAbs.log2 < 1920); decide +kernel), this⟩
end L2.EV
set_option maxHeartbeats 1000000
namespace L2.EV
open PySem PySem.Spec PyProof.Rows
/-! read_over -/
abbrev N_read_over : List Str := ["letters", "text"]
abbrev P_read_over : List Str := ["letters", "text"]
theorem S_read_over : FnScope N_read_over P_read_over (defScope (top 36)) := ⟨rfl, rfl, rfl, by decide +kernel, rfl, by decide +kernel, by decide +kernel⟩
def r_read_over : ES :=
  (sRet (eCall (shG g_read_by) [] (aCons (eMake "SayingReader" (shG g_SayingReader___init__) [] (aCons (eVar 0) aNil)) (aCons (eVar 1) aNil))))
theorem w_read_over {P : Program} {w : World} {K : PySem.W.Frag} {mg : Str → Option Value} {base : Heap} {k : Nat} {f : Addr} {cdv : Value} {A : Around} {outer : List Env} {s : Shared} {H : Hp} {E : XK} (M : Md P K w mg) (F_SayingReader : FnC P w K mg base k 2 (shG g_SayingReader___init__) [] "SayingReader") (F_read_by : FnG P w K mg base (k + 1) 2 (shG g_read_by) [] "read_by")
    (hr : Room (k + 1) (A.deeper (envOfC "read_over" (defScope (top 36)) s.heap.objs.size f cdv))) :
    PSs (cxOf (L2.CX P w) P w K mg base N_read_over "read_over" (defScope (top 36)) f cdv A outer s H E) (defBody (top 36)) (RS K (wE E) r_read_over) := by
  have S := S_read_over
  exact (sv_one (sv_ret (ev_call F_read_by hr (takes_of rfl rfl rfl rfl) (av_cons (ev_make F_SayingReader hr (takes_of rfl rfl rfl rfl) (av_cons (ev_var 0) av_nil)) (av_cons (ev_var 1) av_nil)))))
/-! read_saying -/
abbrev N_read_saying : List Str := ["names", "text"]
abbrev P_read_saying : List Str := ["names", "text"]
theorem S_read_saying : FnScope N_read_saying P_read_saying (defScope (top 37)) := ⟨rfl, rfl, rfl, by decide +kernel, rfl, by decide +kernel, by decide +kernel⟩
def r_read_saying : ES :=
  (sSeq (sExpr (eCall (shG g_check_names) [] (aCons (eVar 0) aNil)))
  (sRet (eCall g_read_over [] (aCons (eVar 0) (aCons (eVar 1) aNil)))))
theorem w_read_saying {P : Program} {w : World} {K : PySem.W.Frag} {mg : Str → Option Value} {base : Heap} {k : Nat} {f : Addr} {cdv : Value} {A : Around} {outer : List Env} {s : Shared} {H : Hp} {E : XK} (M : Md P K w mg) (F_check_names : FnG P w K mg base (k + 1) 1 (shG g_check_names) [] "check_names") (F_read_over : FnG P w K mg base (k + 1) 2 g_read_over [] "read_over")
    (hr : Room (k + 1) (A.deeper (envOfC "read_saying" (defScope (top 37)) s.heap.objs.size f cdv))) :
    PSs (cxOf (L2.CX P w) P w K mg base N_read_saying "read_saying" (defScope (top 37)) f cdv A outer s H E) (defBody (top 37)) (RS K (wE E) r_read_saying) := by
  have S := S_read_saying
  exact (sv_seq (sv_expr (ev_call F_check_names hr (takes_of rfl rfl rfl rfl) (av_cons (ev_var 0) av_nil)))
  (sv_one (sv_ret (ev_call F_read_over hr (takes_of rfl rfl rfl rfl) (av_cons (ev_var 0) (av_cons (ev_var 1) av_nil))))))
end L2.EV
set_option maxHeartbeats 1000000
/-! K01L24: calls under forgetting; read_over, read_saying. -/
namespace L2.EV
open PySem PySem.Spec PyProof.Rows
theorem shM_sub {P : Mem → Prop} {m m' : Mem} (s : Sub m m') (h : P m) : shM P m' := ⟨m, s, h⟩
theorem ansQ_sub {r : Ans} {m m' : Mem} {Q : QD} {X : XD} (s : Sub m m') (h : ansQ r m Q X) : ansQ r m' (fun d m' => shM (Q d) m') (fun c d m' => shM (X c d) m') := by
  cases r with
  | ok ns => exact shM_sub s h
  | error k => exact fun p hp => shM_sub s.up (h p (s.none hp))
theorem x_check_names {d : D} {m : Mem} {Q : QD} {X : XD} (ty : typed m d) (h1 : namesOk d = true → Q .non m) (h2 : namesOk d = false → ∀ p, m p = none → X "BadNames" (some p) (mup m p (.xd [("thing", d)]))) : shG g_check_names [d] m Q X :=
  ⟨d, rfl, ty, fun q m' s => shM_sub s (h1 q), fun q m' p s hp => shM_sub s.up (h2 q p (s.none hp))⟩
theorem x_sheet_over {z : Str} {d : D} {m : Mem} {Q : QD} {X : XD} (ok : okT 30 m d) (h : match sheetBad z m d with
  | some k => ∀ p, m p = none → X "BadSheet" (some p) (mup m p (.xd [("number", .int k)]))
  | none => Q (deepD 30 m d) m) : shG g_sheet_over [.str z, d] m Q X := by
  refine ⟨z, d, rfl, ok, ?_⟩
  cases q : sheetBad z m d with
  | some k => rw [q] at h; exact fun m' p s hp => shM_sub s.up (h p (s.none hp))
  | none => rw [q] at h; exact fun m' s => shM_sub s h
theorem x_checked_sheet {c : D} {d : D} {m : Mem} {Q : QD} {X : XD} (ty : typed m c) (ok : okT 30 m d) (h1 : namesOk c = false → ∀ p, m p = none → X "BadNames" (some p) (mup m p (.xd [("thing", c)])))
    (h : ∀ z, c = .str z → namesOk c = true → match sheetBad z m d with
  | some k => ∀ p, m p = none → X "BadSheet" (some p) (mup m p (.xd [("number", .int k)]))
  | none => Q (deepD 30 m d) m) : shG g_checked_sheet [c, d] m Q X := by
  refine ⟨c, d, rfl, ty, ok, fun q m' p s hp => shM_sub s.up (h1 q p (s.none hp)), fun z e q0 => ?_⟩
  have h := h z e q0
  cases q : sheetBad z m d with
  | some k => rw [q] at h; exact fun m' p s hp => shM_sub s.up (h p (s.none hp))
  | none => rw [q] at h; exact fun m' s => shM_sub s h
theorem x_referred {d : D} {w : Str} {args : List D} {fm : Str} {m : Mem} {Q : QD} {X : XD} (hc : ∀ xs, d ≠ .ct xs) (hl : lstd m d = some (.str w :: args)) (ha : args.length < 1000) (hf : formOf w = some fm)
    (h : ∀ p, m p = none → Q (.ref p) (mup m p (.lst (refsOf fm.cps.toList args)))) : shG g_referred [d] m Q X := by
  refine ⟨d, w, args, fm, rfl, hc, hl, ha, hf, fun m' p s hp hm => ⟨mup m p (.lst (refsOf fm.cps.toList args)), fun a o e => ?_, h p hp⟩⟩
  by_cases q : a = p
  · subst q; rw [mup_same] at e; cases e; exact hm
  · rw [mup_ne q] at e; exact s a o e
/-- a lister in the memory: exact -/
def lisM (m : Mem) (n k : Addr) (ns : List (List Key)) : Mem := mup (mup m n (.lst (ns.map dN))) k (.dT (known ns))
theorem x_Lister_put {l n k : Addr} {ns : List (List Key)} {ks : List Key} {m : Mem} {Q : QD} {X : XD} (L : ListerAt m l n k ns) (hn : ns.length < 1000000) (h : Q (.int ((putN ns ks).2 : Nat)) (lisM m n k (putN ns ks).1)) : shG g_Lister_put [.ref l, dN ks] m Q X := by
  refine ⟨l, n, k, ns, ks, rfl, L, hn, fun m' fr L' => shM_sub (fun a o e => ?_) h⟩
  unfold lisM at e
  by_cases q : a = k
  · subst q; rw [mup_same] at e; cases e; exact L'.known
  · rw [mup_ne q] at e
    by_cases q2 : a = n
    · subst q2; rw [mup_same] at e; cases e; exact L'.nodes
    · rw [mup_ne q2] at e; exact fr a o e q2 q
theorem x_Lister_init {l : Addr} {m : Mem} {Q : QD} {X : XD} (hl : m l = some (.ins "Lister" [])) (h : ∀ n k, m n = none → m k = none → n ≠ k → Q .non (lisM (mup m l (.ins "Lister" [("nodes", .ref n), ("known", .ref k)])) n k [])) : shG g_Lister___init__ [.ref l] m Q X := by
  refine ⟨l, rfl, hl, fun m' n k fr hn hk L => ?_⟩
  have nk : n ≠ k := fun e => by have := L.nodes; rw [e, L.known] at this; cases this
  refine shM_sub (fun a o e => ?_) (h n k hn hk nk)
  unfold lisM at e
  by_cases q : a = k
  · subst q; rw [mup_same] at e; cases e; exact L.known
  · rw [mup_ne q] at e
    by_cases q2 : a = n
    · subst q2; rw [mup_same] at e; cases e; exact L.nodes
    · rw [mup_ne q2] at e
      by_cases q3 : a = l
      · subst q3; rw [mup_same] at e; cases e; exact L.ins
      · rw [mup_ne q3] at e; exact fr a o e q3
theorem l_read_over {ds : List D} {m : Mem} {Q : QD} {X : XD} (h : g_read_over ds m Q X) : r_read_over (startD N_read_over.length ds) m (zsS Q X) := by
  obtain ⟨z, d, rfl, tx, h⟩ := h
  show r_read_over [some (.str z), some d] m (zsS Q X)
  simp only [r_read_over, sRet, eCall, aCons, aNil, eMake, eVar, List.getElem?_cons_zero, List.getElem?_cons_succ, List.append_nil]
  intro p hp
  refine ⟨p, z, rfl, mup_same, fun m1 A er up dn I => shM_of ⟨rfl, ?_⟩⟩
  have s1 : Sub m m1 := fun c u e => up c u (by rw [mup_ne (ne_new e hp)]; exact e) (ne_new e hp)
  have dn' : ∀ c ∈ fpA A, m c = none := fun c hc => by
    by_cases q : c = p
    · rw [q]; exact hp
    · have := dn c hc q; rw [mup_ne q] at this; exact this
  refine ⟨A, z, d, by rw [er], I, ⟨?_, tx.2⟩, fun m2 fr => ?_⟩
  · obtain ⟨⟨ty, e⟩, t2, t3⟩ := tx.1
    refine ⟨⟨ty, ?_⟩, t2, t3⟩
    cases d with
    | ref a =>
      simp only [tyN] at e ⊢
      cases q : m a with
      | none => rw [q] at e; cases e
      | some o => rw [q] at e; rw [s1 a o q]; exact e
    | _ => exact e
  · have s2 : Sub m m2 := fun c u e => fr c u (s1 c u e) fun z => by rw [dn' c z] at e; cases e
    exact ansQ_sub (Q := fun d m' => shM (Q d) m') (X := fun c d m' => shM (X c d) m') s2 (by
      cases q : readD z d with
      | ok ns => rw [q] at h; exact shM_of h
      | error k => rw [q] at h; exact fun p hp => shM_of (h p hp))
theorem l_read_saying {ds : List D} {m : Mem} {Q : QD} {X : XD} (h : g_read_saying ds m Q X) : r_read_saying (startD N_read_saying.length ds) m (zsS Q X) := by
  obtain ⟨c, d, rfl, tc, tx, h1, h2⟩ := h
  show r_read_saying [some c, some d] m (zsS Q X)
  simp only [r_read_saying, sSeq, sExpr, sRet, eCall, aCons, aNil, eVar, List.getElem?_cons_zero, List.getElem?_cons_succ, List.append_nil]
  refine x_check_names tc (fun q => ?_) (fun q p hp => shM_of (h1 q p hp))
  cases c with
  | str z =>
    refine ⟨z, d, rfl, tx, ?_⟩
    have := h2 z rfl q
    show ansQ _ _ (fun d m => shM (Q d) m) (fun c d m => shM (X c d) m)
    cases r : readD z d with
    | ok ns => rw [r] at this; exact shM_of this
    | error k => rw [r] at this; exact fun p hp => shM_of (this p hp)
  | _ => cases q
end L2.EV
set_option maxHeartbeats 1000000
/-! K01S3: nodes, trees, listing; promises of renumbered, tidied .. -/
namespace L2.EV
open PySem PySem.Spec PyProof.Rows
def aloneL : List Str := ["yes", "no", "bare"]
def joinL : List Str := ["adds", "or", "and", "apart"]
inductive NodeV (z : Str) (k : Nat) : List Key → Prop
  | al {w : Str} (h : w ∈ aloneL) : NodeV z k [.inr w]
  | ho {t : Str} (h : termOk z (.str t) = true) : NodeV z k [.inr "holds", .inr t]
  | re {w t u : Str} (h : w ∈ relL) (ht : termOk z (.str t) = true) (hu : termOk z (.str u) = true) : NodeV z k [.inr w, .inr t, .inr u]
  | nt {i : Nat} (h : i < k) : NodeV z k [.inr "not", .inl (i : Nat)]
  | jn {w : Str} {i j : Nat} (h : w ∈ joinL) (hi : i < k) (hj : j < k) : NodeV z k [.inr w, .inl (i : Nat), .inl (j : Nat)]
def SheetV (z : Str) (sh : List (List Key)) : Prop := ∀ k ks, sh[k]? = some ks → NodeV z k ks
def refsK (ks : List Key) : List Nat := ks.filterMap fun k => match k with
  | .inl i => some i.toNat
  | .inr _ => none
def ren (f : Nat → Nat) (ks : List Key) : List Key := ks.map fun k => match k with
  | .inl i => .inl (f i.toNat : Nat)
  | .inr s => .inr s
def getD (kvs : List (Key × D)) (i : Nat) : Option D := valK kvs (.inl (i : Nat))
def g_renumbered : SPEC := fun ds m Q _ => ∃ z k ks nu kvs f, ds = [dN ks, .ref nu] ∧ NodeV z k ks ∧ m nu = some (.dK kvs) ∧ (∀ i ∈ refsK ks, getD kvs i = some (dI (f i))) ∧ Q (dN (ren f ks)) m
/-- a node written out -/
inductive Tr where
  | atom (ks : List Key) | nt (t : Tr) | jn (w : Str) (l r : Tr)
def post : Tr → List (List Key) → List (List Key) × Nat
  | .atom ks, ns => putN ns ks
  | .nt t, ns => putN (post t ns).1 [.inr "not", .inl ((post t ns).2 : Nat)]
  | .jn w l r, ns => putN (post r (post l ns).1).1 [.inr w, .inl ((post l ns).2 : Nat), .inl ((post r (post l ns).1).2 : Nat)]
def trF (sh : List (List Key)) : Nat → Nat → Tr
  | 0, _ => .atom []
  | f + 1, n => match sh[n]? with
    | some [.inr _, .inl i] => .nt (trF sh f i.toNat)
    | some [.inr w, .inl i, .inl j] => .jn w (trF sh f i.toNat) (trF sh f j.toNat)
    | some ks => .atom ks
    | none => .atom []
/-- the tree of a node -/
def trOf (sh : List (List Key)) (n : Nat) : Tr := trF sh (n + 1) n
def tidyS (sh : List (List Key)) : List (List Key) := (post (trOf sh (sh.length - 1)) []).1
def LTt : LT := fun x => if x = ("referred" : Str) then some (shG g_referred) else if x = ("renumbered" : Str) then some g_renumbered else none
def shOk (z : Str) (sh : List (List Key)) : Prop := SheetV z sh ∧ 1 ≤ sh.length ∧ sh.length ≤ 2000
def g_tidied : SPEC := fun ds m Q _ => ∃ z sh, ds = [.tup (sh.map dN), .glob "referred", .glob "renumbered"] ∧ shOk z sh ∧ Q (.tup ((tidyS sh).map dN)) m
def g_tidy_over : SPEC := fun ds m Q _ => ∃ z sh, ds = [.tup (sh.map dN)] ∧ shOk z sh ∧ Q (.tup ((tidyS sh).map dN)) m
/-- things that a sheet's tuples and lists are -/
def isSheet (m : Mem) (d : D) (sh : List (List Key)) : Prop := okT 30 m d ∧ deepD 30 m d = .tup (sh.map dN) ∧ ∀ z, SheetV z sh → sheetBad z m d = none
def g_tidy_saying : SPEC := fun ds m Q X => ∃ z d sh, ds = [.str z, d] ∧ typed m (.str z) ∧ namesOk (.str z) = true ∧ isSheet m d sh ∧ shOk z sh ∧ Q (.tup ((tidyS sh).map dN)) m
end L2.EV
set_option maxHeartbeats 1000000
namespace L2.EV
open PySem PySem.Spec PyProof.Rows
/-! renumbered -/
abbrev N_renumbered : List Str := ["node", "numbers", "inside", "part"]
abbrev P_renumbered : List Str := ["node", "numbers"]
theorem S_renumbered : FnScope N_renumbered P_renumbered (defScope (top 38)) := ⟨rfl, rfl, rfl, by decide +kernel, rfl, by decide +kernel, by decide +kernel⟩
def r_renumbered : ES :=
  (sSeq (sAsg (gN 2) (eCall (shG g_referred) [] (aCons (eVar 0) aNil)))
  (sRet (eIf (tOf (eBin dGt (eB bLen (aCons (eVar 2) aNil)) (eK (.int 0)))) (eBin dAdd (eTup (aCons (eBin (dIx TT) (eVar 0) (eK (.int 0))) aNil)) (eB bTuple (aCons (eLc (iSeq (eVar 2)) (gN 3) tYesD (eBin (dIx TT) (eVar 1) (eVar 3)) [3]) aNil))) (eVar 0))))
theorem w_renumbered {P : Program} {w : World} {K : PySem.W.Frag} {mg : Str → Option Value} {base : Heap} {k : Nat} {f : Addr} {cdv : Value} {A : Around} {outer : List Env} {s : Shared} {H : Hp} {E : XK} (M : Md P K w mg) (F_referred : FnG P w K mg base (k + 1) 1 (shG g_referred) [] "referred")
    (hr : Room (k + 1) (A.deeper (envOfC "renumbered" (defScope (top 38)) s.heap.objs.size f cdv))) :
    PSs (cxOf (L2.CX P w) P w K mg base N_renumbered "renumbered" (defScope (top 38)) f cdv A outer s H E) (defBody (top 38)) (RS K (wE E) r_renumbered) := by
  have S := S_renumbered
  have hT : TabOk (cxOf (L2.CX P w) P w K mg base N_renumbered "renumbered" (defScope (top 38)) f cdv A outer s H E) TT := M.tab _ rfl rfl
  exact (sv_seq (sv_set 2 S.nd (ev_call F_referred hr (takes_of rfl rfl rfl rfl) (av_cons (ev_var 0) av_nil)))
  (sv_one (sv_ret (ev_if (ev_tcmp o_gt (b_len M.n_len (av_cons (ev_var 2) av_nil)) ev_int) (ev_bin o_add (ev_tup (av_cons (ev_ix hT (roomU hr) (ev_var 0) ev_int) av_nil)) (b_tuple M.n_tuple (av_cons (ev_lc [("part", 3)] rfl S.nd (pi_seq (ev_var 2)) (blkOk_by (by kernel_rfl)) (fun _ _ _ _ _ => (gw_name 3 S.nd)) (fun _ _ _ _ _ => tvs_nil) (fun _ _ _ _ _ => (ev_ix hT (roomU hr) (ev_var 1) (ev_var 3)))) av_nil))) (ev_var 0)))))
/-! tidied -/
abbrev N_tidied : List Str := ["sheet", "referred", "renumbered", "lister", "numbers", "waiting", "one", "lacking_now", "other"]
abbrev P_tidied : List Str := ["sheet", "referred", "renumbered"]
theorem S_tidied : FnScope N_tidied P_tidied (defScope (top 29)) := ⟨rfl, rfl, rfl, by decide +kernel, rfl, by decide +kernel, by decide +kernel⟩
def r_tidied : ES :=
  (sSeq (sAsg (gN 3) (eMake "Lister" (shG g_Lister___init__) [] aNil))
  (sSeq (sAsg (gN 4) eNewK)
  (sSeq (sAsg (gN 5) (eLst (aCons (eBin dSub (eB bLen (aCons (eVar 0) aNil)) (eK (.int 1))) aNil)))
  (sSeq (sWhile (tOf (eBin dGt (eB bLen (aCons (eVar 5) aNil)) (eK (.int 0))))
   (sSeq (sAsg (gN 6) (eBin (dIx TT) (eVar 5) (eUn dNeg (eK (.int 1)))))
   (sSeq (sAsg (gN 7) (eLc (iSeq (eCallL LTt 1 (aCons (eBin (dIx TT) (eVar 0) (eVar 6)) aNil))) (gN 8) (tOf (eBin (dNotIn TT) (eVar 8) (eVar 4))) (eVar 8) [8]))
   (sSeq (sIf (tOf (eBin dGt (eB bLen (aCons (eVar 7) aNil)) (eK (.int 0))))
    (sSeq (sExpr (eM isLst mAppend (eVar 5) (aCons (eBin (dIx TT) (eVar 7) (eK (.int 0))) aNil)))
    sCont)
    sNil)
   (sSeq (sExpr (eM isLst mPop (eVar 5) aNil))
   (sIf (tOf (eBin (dNotIn TT) (eVar 6) (eVar 4)))
    (sSetIx (eVar 4) (eVar 6) (eMeth "Lister" "put" (shG g_Lister_put) [] (eVar 3) (aCons (eCallL LTt 2 (aCons (eBin (dIx TT) (eVar 0) (eVar 6)) (aCons (eVar 4) aNil))) aNil)))
    sNil))))))
  (sRet (eB bTuple (aCons (eFld FF "nodes" (eVar 3)) aNil)))))))
theorem w_tidied {P : Program} {w : World} {K : PySem.W.Frag} {mg : Str → Option Value} {base : Heap} {k : Nat} {f : Addr} {cdv : Value} {A : Around} {outer : List Env} {s : Shared} {H : Hp} {E : XK} (M : Md P K w mg) (F_Lister : FnC P w K mg base k 1 (shG g_Lister___init__) [] "Lister") (F_Lister_put : FnM P w K mg base (k + 1) 2 (shG g_Lister_put) [] "Lister" "put") (hL : ∀ x g, LTt x = some g → ∃ n, FnG P w K mg base (k + 1) n g [] x)
    (hr : Room (k + 1) (A.deeper (envOfC "tidied" (defScope (top 29)) s.heap.objs.size f cdv))) :
    PSs (cxOf (L2.CX P w) P w K mg base N_tidied "tidied" (defScope (top 29)) f cdv A outer s H E) (defBody (top 29)) (RS K (wE E) r_tidied) := by
  have S := S_tidied
  have hT : TabOk (cxOf (L2.CX P w) P w K mg base N_tidied "tidied" (defScope (top 29)) f cdv A outer s H E) TT := M.tab _ rfl rfl
  have hF : FldOk (cxOf (L2.CX P w) P w K mg base N_tidied "tidied" (defScope (top 29)) f cdv A outer s H E) FF := M.fld _ rfl
  exact (sv_seq (sv_set 3 S.nd (ev_make0 F_Lister hr (takes_of rfl rfl rfl rfl)))
  (sv_seq (sv_set 4 S.nd ev_newK)
  (sv_seq (sv_set 5 S.nd (ev_lst (av_cons (ev_bin o_sub (b_len M.n_len (av_cons (ev_var 0) av_nil)) ev_int) av_nil)))
  (sv_seq (sv_while (passes_of rfl) (ev_tcmp o_gt (b_len M.n_len (av_cons (ev_var 5) av_nil)) ev_int)
   (sv_seq (sv_set 6 S.nd (ev_ix hT (roomU hr) (ev_var 5) (ev_neg ev_int)))
   (sv_seq (sv_lc 7 [("other", 8)] rfl S.nd rfl (sw_true rfl rfl rfl rfl) (pi_seq (ev_callL 1 hL hr (takes_of rfl rfl rfl rfl) (av_cons (ev_ix hT (roomU hr) (ev_var 0) (ev_var 6)) av_nil))) (blkOk_by (by kernel_rfl)) (fun _ _ _ _ _ => (gw_name 8 S.nd)) (fun _ _ _ _ _ => (tvs_one (ev_tcmp (o_notin hT (roomU hr)) (ev_var 8) (ev_var 4)))) (fun _ _ _ _ _ => (ev_var 8)))
   (sv_seq (sv_if (ev_tcmp o_gt (b_len M.n_len (av_cons (ev_var 7) av_nil)) ev_int)
    (sv_seq (sv_expr (b_append (ev_var 5) (av_cons (ev_ix hT (roomU hr) (ev_var 7) ev_int) av_nil)))
    (sv_one (sv_cont)))
    sv_nil)
   (sv_seq (sv_expr (b_pop (ev_var 5)))
   (sv_one (sv_if (ev_tcmp (o_notin hT (roomU hr)) (ev_var 6) (ev_var 4))
    (sv_one (sv_setix (roomU hr) (ev_var 4) (ev_var 6) (ev_meth (pl := _) F_Lister_put hr (takes_of rfl rfl rfl rfl) (ev_var 3) (av_cons (ev_callL 2 hL hr (takes_of rfl rfl rfl rfl) (av_cons (ev_ix hT (roomU hr) (ev_var 0) (ev_var 6)) (av_cons (ev_var 4) av_nil))) av_nil))))
    sv_nil)))))))
  (sv_one (sv_ret (b_tuple M.n_tuple (av_cons (ev_fld hF (ev_var 3)) av_nil))))))))
/-! tidy_over -/
abbrev N_tidy_over : List Str := ["sheet"]
abbrev P_tidy_over : List Str := ["sheet"]
theorem S_tidy_over : FnScope N_tidy_over P_tidy_over (defScope (top 39)) := ⟨rfl, rfl, rfl, by decide +kernel, rfl, by decide +kernel, by decide +kernel⟩
def r_tidy_over : ES :=
  (sRet (eCall g_tidied [] (aCons (eVar 0) (aCons (eK (.glob "referred")) (aCons (eK (.glob "renumbered")) aNil)))))
theorem w_tidy_over {P : Program} {w : World} {K : PySem.W.Frag} {mg : Str → Option Value} {base : Heap} {k : Nat} {f : Addr} {cdv : Value} {A : Around} {outer : List Env} {s : Shared} {H : Hp} {E : XK} (M : Md P K w mg) (F_tidied : FnG P w K mg base (k + 1) 3 g_tidied [] "tidied")
    (hr : Room (k + 1) (A.deeper (envOfC "tidy_over" (defScope (top 39)) s.heap.objs.size f cdv))) :
    PSs (cxOf (L2.CX P w) P w K mg base N_tidy_over "tidy_over" (defScope (top 39)) f cdv A outer s H E) (defBody (top 39)) (RS K (wE E) r_tidy_over) := by
  have S := S_tidy_over
  exact (sv_one (sv_ret (ev_call F_tidied hr (takes_of rfl rfl rfl rfl) (av_cons (ev_var 0) (av_cons (ev_glob (gv_glo M.f_referred)) (av_cons (ev_glob (gv_glo M.f_renumbered)) av_nil))))))
/-! tidy_saying -/
abbrev N_tidy_saying : List Str := ["names", "sheet"]
abbrev P_tidy_saying : List Str := ["names", "sheet"]
theorem S_tidy_saying : FnScope N_tidy_saying P_tidy_saying (defScope (top 40)) := ⟨rfl, rfl, rfl, by decide +kernel, rfl, by decide +kernel, by decide +kernel⟩
def r_tidy_saying : ES :=
  (sSeq (sExpr (eCall (shG g_check_names) [] (aCons (eVar 0) aNil)))
  (sRet (eCall g_tidy_over [] (aCons (eCall (shG g_sheet_over) [] (aCons (eVar 0) (aCons (eVar 1) aNil))) aNil))))
theorem w_tidy_saying {P : Program} {w : World} {K : PySem.W.Frag} {mg : Str → Option Value} {base : Heap} {k : Nat} {f : Addr} {cdv : Value} {A : Around} {outer : List Env} {s : Shared} {H : Hp} {E : XK} (M : Md P K w mg) (F_check_names : FnG P w K mg base (k + 1) 1 (shG g_check_names) [] "check_names") (F_sheet_over : FnG P w K mg base (k + 1) 2 (shG g_sheet_over) [] "sheet_over") (F_tidy_over : FnG P w K mg base (k + 1) 1 g_tidy_over [] "tidy_over")
    (hr : Room (k + 1) (A.deeper (envOfC "tidy_saying" (defScope (top 40)) s.heap.objs.size f cdv))) :
    PSs (cxOf (L2.CX P w) P w K mg base N_tidy_saying "tidy_saying" (defScope (top 40)) f cdv A outer s H E) (defBody (top 40)) (RS K (wE E) r_tidy_saying) := by
  have S := S_tidy_saying
  exact (sv_seq (sv_expr (ev_call F_check_names hr (takes_of rfl rfl rfl rfl) (av_cons (ev_var 0) av_nil)))
  (sv_one (sv_ret (ev_call F_tidy_over hr (takes_of rfl rfl rfl rfl) (av_cons (ev_call F_sheet_over hr (takes_of rfl rfl rfl rfl) (av_cons (ev_var 0) (av_cons (ev_var 1) av_nil))) av_nil)))))
end L2.EV
set_option maxHeartbeats 1000000
/-! K01L25: nodes; renumbered. -/
namespace L2.EV
open PySem PySem.Spec PyProof.Rows
theorem refsOf_t (xs : List D) : refsOf [116] xs = [] ∧ refsOf [116, 116] xs = [] := by
  constructor
  · cases xs <;> simp [refsOf]
  · match xs with
    | [] => simp [refsOf]
    | [a] => simp [refsOf]
    | a :: b :: c => simp [refsOf]
theorem NodeV.form {z : Str} {k : Nat} {ks : List Key} (h : NodeV z k ks) : ∃ w args fm, ks.map dK = .str w :: args ∧ args.length < 1000 ∧ formOf w = some fm ∧ refsOf fm.cps.toList args = (refsK ks).map dI ∧ (refsK ks = [] ∨ ∃ is : List Nat, args = is.map dI ∧ refsK ks = is ∧ ks = .inr w :: is.map fun (i : Nat) => Sum.inl (i : Int)) ∧ (refsK ks).length ≤ 2 := by
  have c1 : formOf "yes" = some "" ∧ formOf "no" = some "" ∧ formOf "bare" = some "" := by decide +kernel
  have c2 : formOf "holds" = some "t" := by decide +kernel
  have c3 : ∀ w ∈ relL, formOf w = some "tt" := by decide +kernel
  have c4 : formOf "not" = some "n" := by decide +kernel
  have c5 : ∀ w ∈ joinL, formOf w = some "nn" := by decide +kernel
  have e0 : ("" : Str).cps.toList = [] := by decide +kernel
  have et : ("t" : Str).cps.toList = [116] := by decide +kernel
  have ett : ("tt" : Str).cps.toList = [116, 116] := by decide +kernel
  have en : ("n" : Str).cps.toList = [110] := by decide +kernel
  have enn : ("nn" : Str).cps.toList = [110, 110] := by decide +kernel
  cases h with
  | @al w h =>
    refine ⟨w, [], "", rfl, by decide, ?_, by rw [e0]; rfl, .inl rfl, by simp [refsK]⟩
    simp only [aloneL, List.mem_cons, List.not_mem_nil, or_false] at h
    rcases h with rfl | rfl | rfl
    · exact c1.1
    · exact c1.2.1
    · exact c1.2.2
  | @ho t h => exact ⟨"holds", [.str t], "t", rfl, by simp, c2, by rw [et, (refsOf_t _).1]; rfl, .inl rfl, by simp [refsK]⟩
  | @re w t u h ht hu => exact ⟨w, [.str t, .str u], "tt", rfl, by simp, c3 w h, by rw [ett, (refsOf_t _).2]; rfl, .inl rfl, by simp [refsK]⟩
  | @nt i h => exact ⟨"not", [.int (i : Nat)], "n", rfl, by simp, c4, by rw [en]; rfl, .inr ⟨[i], rfl, rfl, rfl⟩, by simp [refsK]⟩
  | @jn w i j h hi hj => exact ⟨w, [.int (i : Nat), .int (j : Nat)], "nn", rfl, by simp, c5 w h, by rw [enn]; rfl, .inr ⟨[i, j], rfl, rfl, rfl⟩, by simp [refsK]⟩
theorem lstd_tup {m : Mem} {xs : List D} : lstd m (.tup xs) = some xs := rfl
theorem NodeV.refer {z : Str} {k : Nat} {ks : List Key} {m : Mem} {Q : QD} {X : XD} (h : NodeV z k ks) (q : ∀ p, m p = none → Q (.ref p) (mup m p (.lst ((refsK ks).map dI)))) : shG g_referred [dN ks] m Q X := by
  obtain ⟨w, args, fm, e1, e2, e3, e4, _⟩ := h.form
  refine x_referred (fun xs => (by show dN ks ≠ _; intro z; cases z)) (by show some (ks.map dK) = _; rw [e1]) e2 e3 ?_
  rw [e4]; exact q
theorem ren_nil {f : Nat → Nat} : ∀ {ks : List Key}, refsK ks = [] → ren f ks = ks
  | [], _ => rfl
  | .inl i :: ks, h => by simp [refsK] at h
  | .inr s :: ks, h => by
    have h' : refsK ks = [] := by simpa [refsK] using h
    show .inr s :: ren f ks = _
    rw [ren_nil h']
theorem ren_refs (f : Nat → Nat) (w : Str) (is : List Nat) : ren f (.inr w :: is.map fun (i : Nat) => Sum.inl (i : Int)) = .inr w :: is.map fun (i : Nat) => Sum.inl ((f i : Nat) : Int) := by
  simp [ren, List.map_map, Function.comp_def]
theorem sub_p {m : Mem} {p : Addr} {o : MO} (h : m p = none) : Sub m (mup m p o) := sub_new h
theorem l_renumbered {ds : List D} {m : Mem} {Q : QD} {X : XD} (h : g_renumbered ds m Q X) : r_renumbered (startD N_renumbered.length ds) m (zsS Q X) := by
  obtain ⟨z, k, ks, nu, kvs, f, rfl, hv, hm, hf, h⟩ := h
  show r_renumbered [some (dN ks), some (.ref nu), none, none] m (zsS Q X)
  obtain ⟨w, args, fm, e1, e2, e3, e4, e5, e6⟩ := hv.form
  simp only [r_renumbered, sSeq, sAsg, eCall, aCons, aNil, eVar, List.getElem?_cons_zero, List.append_nil, gN, List.set_cons_succ, List.set_cons_zero]
  refine hv.refer fun p hp => ?_
  have np : nu ≠ p := ne_new hm hp
  simp only [sRet, eIf, tOf, eBin, eB, aCons, aNil, eVar, eK, List.getElem?_cons_zero, List.getElem?_cons_succ, bLen, d1Q, lenQ, mup_same, dGt, bK]
  rcases e5 with e5 | ⟨is, a1, a2, a3⟩
  · rw [e5]
    refine ⟨fun z => absurd z (by decide), fun _ => ?_⟩
    rw [ren_nil e5] at h
    exact shM_sub (sub_p hp) h
  · by_cases q : is = []
    · rw [a2, q]
      refine ⟨fun z => absurd z (by decide), fun _ => ?_⟩
      rw [ren_nil (by rw [a2, q])] at h
      exact shM_sub (sub_p hp) h
    · have ql : 0 < is.length := List.length_pos_iff.mpr q
      have en : dN ks = .tup (.str w :: args) := by show D.tup (ks.map dK) = _; rw [e1]
      rw [a2, List.length_map, decide_eq_true (by omega : (is.length : Int) > 0)]
      refine ⟨fun _ => ?_, fun z => (by cases z)⟩
      have at0 : ∀ xs : List D, atI (.str w :: xs) 0 = some (.str w) := fun xs => by rw [show (0 : Int) = ((0 : Nat) : Int) from rfl, atI_nat]; rfl
      simp only [eTup, aCons, aNil, eBin, eVar, eK, en, List.getElem?_cons_zero, dIx, intQ, at0, someQ, eLc, iSeq, iterQ, List.getElem?_cons_succ, mup_same]
      refine ⟨by show 1 ≤ sizeLine; rw [sizeLine_eq]; omega, fun p2 hp2 => ?_⟩
      have n2 : nu ≠ p2 := ne_new (show mup m p (.lst (is.map dI)) nu = some _ by rw [mup_ne np]; exact hm) hp2
      have n3 : p ≠ p2 := ne_new mup_same hp2
      refine lc_exM (f := fun d => match d with
        | .int i => dI (f i.toNat)
        | _ => .non) (fun acc => ?_) (fun x hx acc k hk => ?_) ?_ ?_
      · rw [mup_ne n3, mup_same]
      · obtain ⟨i, hi, rfl⟩ := List.mem_map.mp hx
        simp only [wipeD, eBin, eVar, List.set_cons_succ, List.set_cons_zero, List.getElem?_cons_zero, List.getElem?_cons_succ, dI, dIx]
        rw [mup_ne n2, mup_ne np, hm]
        have := hf i (by rw [a2]; exact hi)
        simp only [keyOf, Option.bind_some]
        rw [show valK kvs (.inl ((i : Nat) : Int)) = getD kvs i from rfl, this]
        exact hk
      · rw [List.length_map, sizeLine_eq]; rw [a2] at e6; omega
      · simp only [bTuple, d1Q, tupQ, mup_same]
        show [D.str w].length + _ ≤ sizeLine ∧ _
        refine ⟨by rw [List.length_map, List.length_map, List.length_singleton, sizeLine_eq]; rw [a2] at e6; omega, ?_⟩
        have er : dN (ren f ks) = .tup ([D.str w] ++ (is.map dI).map fun d => match d with
          | .int i => dI (f i.toNat)
          | _ => .non) := by
          rw [a3, ren_refs]
          simp [dN, dK, List.map_map, Function.comp_def, dI]
        rw [er] at h
        exact shM_sub (fun a o e => by rw [mup_ne (fun z => by rw [z] at e; rw [mup_ne (by exact fun y => by rw [y, hp] at e; cases e)] at hp2; rw [hp2] at e; cases e), mup_ne (ne_new e hp)]; exact e) h
end L2.EV
set_option maxHeartbeats 1000000
/-! K01L26: listing: what is listed stays; trees of a sheet. -/
namespace L2.EV
open PySem PySem.Spec PyProof.Rows
theorem putN_ext (ns : List (List Key)) (ks : List Key) : ∃ e, (putN ns ks).1 = ns ++ e := by
  unfold putN; split
  · exact ⟨[], by simp⟩
  · exact ⟨[ks], rfl⟩
theorem post_ext : ∀ (t : Tr) (ns : List (List Key)), ∃ e, (post t ns).1 = ns ++ e
  | .atom ks, ns => putN_ext ns ks
  | .nt t, ns => by
    obtain ⟨e, h⟩ := post_ext t ns
    obtain ⟨e2, h2⟩ := putN_ext (post t ns).1 [.inr "not", .inl ((post t ns).2 : Nat)]
    exact ⟨e ++ e2, by rw [post, h2, h, List.append_assoc]⟩
  | .jn w l r, ns => by
    obtain ⟨e, h⟩ := post_ext l ns
    obtain ⟨e1, h1⟩ := post_ext r (post l ns).1
    obtain ⟨e2, h2⟩ := putN_ext (post r (post l ns).1).1 [.inr w, .inl ((post l ns).2 : Nat), .inl ((post r (post l ns).1).2 : Nat)]
    exact ⟨e ++ e1 ++ e2, by rw [post, h2, h1, h]; simp⟩
theorem inN_app {ns e : List (List Key)} {ks : List Key} (h : inN ks ns = true) : inN ks (ns ++ e) = true := by
  unfold inN at h ⊢; rw [List.any_append, h, Bool.true_or]
theorem idxOf_app {ns e : List (List Key)} {ks : List Key} (h : inN ks ns = true) : idxOf ks (ns ++ e) = idxOf ks ns := by
  unfold idxOf
  rw [List.findIdx_append, if_pos]
  exact List.findIdx_lt_length.mpr (by
    simp only [inN, List.any_eq_true] at h
    exact h)
theorem putN_stay {ns : List (List Key)} {ks : List Key} {j : Nat} (h : putN ns ks = (ns, j)) (e : List (List Key)) : putN (ns ++ e) ks = (ns ++ e, j) := by
  unfold putN at h ⊢
  split at h
  · rename_i q
    rw [if_pos (inN_app q), idxOf_app q, (Prod.mk.inj h).2]
  · have := congrArg List.length (Prod.mk.inj h).1
    simp at this
theorem idxOf_new {ns : List (List Key)} {ks : List Key} (h : ¬ inN ks ns = true) : idxOf ks (ns ++ [ks]) = ns.length := by
  unfold idxOf
  rw [List.findIdx_append, if_neg]
  · simp
  · intro z
    exact h (by simp only [inN, List.any_eq_true]; exact List.findIdx_lt_length.mp z)
theorem putN_again (ns : List (List Key)) (ks : List Key) : putN (putN ns ks).1 ks = ((putN ns ks).1, (putN ns ks).2) := by
  by_cases q : inN ks ns = true
  · have e : putN ns ks = (ns, idxOf ks ns) := by unfold putN; rw [if_pos q]
    rw [e]; exact e
  · have e : putN ns ks = (ns ++ [ks], ns.length) := by unfold putN; rw [if_neg q]
    rw [e]
    unfold putN
    rw [if_pos (by simp [inN]), idxOf_new q]
theorem pair_eq {α β : Type} {p : α × β} {a : α} (h : p.1 = a) : p = (a, p.2) := by rw [← h]
theorem len_zero {α : Type} {a e : List α} (h : a = a ++ e) : e = [] := by
  have := congrArg List.length h
  rw [List.length_append] at this
  exact List.eq_nil_of_length_eq_zero (by omega)
theorem post_stay : ∀ (t : Tr) (ns : List (List Key)) (j : Nat), post t ns = (ns, j) → ∀ e, post t (ns ++ e) = (ns ++ e, j)
  | .atom ks, ns, j, h, e => putN_stay h e
  | .nt t, ns, j, h, e => by
    obtain ⟨e1, h1⟩ := post_ext t ns
    obtain ⟨e2, h2⟩ := putN_ext (post t ns).1 [.inr "not", .inl ((post t ns).2 : Nat)]
    rw [post] at h
    have z : ns = ns ++ (e1 ++ e2) := by rw [← List.append_assoc, ← h1, ← h2, h]
    have z2 := len_zero z
    have f1 : (post t ns).1 = ns := by rw [h1, (List.append_eq_nil_iff.mp z2).1, List.append_nil]
    have ih := post_stay t ns _ (pair_eq f1) e
    rw [post, ih]
    rw [f1] at h
    exact putN_stay h e
  | .jn w l r, ns, j, h, e => by
    obtain ⟨e1, h1⟩ := post_ext l ns
    obtain ⟨e2, h2⟩ := post_ext r (post l ns).1
    obtain ⟨e3, h3⟩ := putN_ext (post r (post l ns).1).1 [.inr w, .inl ((post l ns).2 : Nat), .inl ((post r (post l ns).1).2 : Nat)]
    rw [post] at h
    have z : ns = ns ++ (e1 ++ (e2 ++ e3)) := by rw [← List.append_assoc, ← h1, ← List.append_assoc, ← h2, ← h3, h]
    have z2 := len_zero z
    have g1 := (List.append_eq_nil_iff.mp z2).1
    have g2 := (List.append_eq_nil_iff.mp (List.append_eq_nil_iff.mp z2).2).1
    have f1 : (post l ns).1 = ns := by rw [h1, g1, List.append_nil]
    have f2 : (post r (post l ns).1).1 = ns := by rw [h2, g2, List.append_nil, f1]
    rw [f1] at f2 h
    have ih1 := post_stay l ns _ (pair_eq f1) e
    have ih2 := post_stay r ns _ (pair_eq f2) e
    rw [post, ih1]
    simp only
    rw [ih2]
    rw [f2] at h
    exact putN_stay h e
theorem post_again : ∀ (t : Tr) (ns : List (List Key)), post t (post t ns).1 = ((post t ns).1, (post t ns).2)
  | .atom ks, ns => putN_again ns ks
  | .nt t, ns => by
    have ih := post_again t ns
    obtain ⟨e, h⟩ := putN_ext (post t ns).1 [.inr "not", .inl ((post t ns).2 : Nat)]
    have := post_stay t _ _ ih e
    have P : post (.nt t) ns = putN (post t ns).1 [.inr "not", .inl ((post t ns).2 : Nat)] := rfl
    rw [P, h, post, this]
    simp only
    rw [← h]
    exact putN_again _ _
  | .jn w l r, ns => by
    have ih1 := post_again l ns
    have ih2 := post_again r (post l ns).1
    obtain ⟨e1, h1⟩ := post_ext r (post l ns).1
    obtain ⟨e, h⟩ := putN_ext (post r (post l ns).1).1 [.inr w, .inl ((post l ns).2 : Nat), .inl ((post r (post l ns).1).2 : Nat)]
    have s1 := post_stay l _ _ ih1 (e1 ++ e)
    rw [← List.append_assoc, ← h1] at s1
    have s2 := post_stay r _ _ ih2 e
    have P : post (.jn w l r) ns = putN (post r (post l ns).1).1 [.inr w, .inl ((post l ns).2 : Nat), .inl ((post r (post l ns).1).2 : Nat)] := rfl
    rw [P, h, post, s1]
    simp only
    rw [s2]
    simp only
    rw [← h]
    exact putN_again _ _
/-! ### the trees of a sheet -/
theorem trF_eq {z : Str} {sh : List (List Key)} (hv : SheetV z sh) : ∀ (f g n : Nat), n < f → n < g → trF sh f n = trF sh g n
  | 0, _, _, h, _ => absurd h (Nat.not_lt_zero _)
  | _, 0, _, _, h => absurd h (Nat.not_lt_zero _)
  | f + 1, g + 1, n, h1, h2 => by
    cases q : sh[n]? with
    | none => simp only [trF, q]
    | some ks =>
      have hn := hv n ks q
      cases hn with
      | al h => simp only [trF, q]
      | ho h => simp only [trF, q]
      | re h ht hu => simp only [trF, q]
      | @nt i h =>
        simp only [trF, q, Int.toNat_natCast]
        rw [trF_eq hv f g i (by omega) (by omega)]
      | @jn w i j h hi hj =>
        simp only [trF, q, Int.toNat_natCast]
        rw [trF_eq hv f g i (by omega) (by omega), trF_eq hv f g j (by omega) (by omega)]
inductive TrV (sh : List (List Key)) (k : Nat) : List Key → Tr → Prop
  | at {ks : List Key} (h : refsK ks = []) : TrV sh k ks (.atom ks)
  | nt {i : Nat} (h : i < k) : TrV sh k [.inr "not", .inl (i : Nat)] (.nt (trOf sh i))
  | jn {w : Str} {i j : Nat} (h : w ∈ joinL) (hi : i < k) (hj : j < k) : TrV sh k [.inr w, .inl (i : Nat), .inl (j : Nat)] (.jn w (trOf sh i) (trOf sh j))
theorem trOf_v {z : Str} {sh : List (List Key)} (hv : SheetV z sh) {n : Nat} {ks : List Key} (q : sh[n]? = some ks) : TrV sh n ks (trOf sh n) := by
  have hn := hv n ks q
  cases hn with
  | al h => unfold trOf; simp only [trF, q]; exact .at rfl
  | ho h => unfold trOf; simp only [trF, q]; exact .at rfl
  | re h ht hu => unfold trOf; simp only [trF, q]; exact .at rfl
  | @nt i h =>
    have e : trOf sh n = .nt (trOf sh i) := by
      unfold trOf
      rw [trF]
      simp only [q, Int.toNat_natCast]
      rw [trF_eq hv n (i + 1) i h (by omega)]
    rw [e]; exact .nt h
  | @jn w i j h hi hj =>
    have e : trOf sh n = .jn w (trOf sh i) (trOf sh j) := by
      unfold trOf
      rw [trF]
      simp only [q, Int.toNat_natCast]
      rw [trF_eq hv n (i + 1) i hi (by omega), trF_eq hv n (j + 1) j hj (by omega)]
    rw [e]; exact .jn h hi hj
/-- all parts listed: the node itself is put -/
theorem post_ren {sh : List (List Key)} {k : Nat} {ks : List Key} {t : Tr} (h : TrV sh k ks t) {ns : List (List Key)} {f : Nat → Nat} (hf : ∀ i ∈ refsK ks, post (trOf sh i) ns = (ns, f i)) : post t ns = putN ns (ren f ks) := by
  cases h with
  | «at» h => rw [ren_nil h]; rfl
  | @nt i h =>
    have := hf i (by simp [refsK])
    rw [post, this]; rfl
  | @jn w i j h hi hj =>
    have h1 := hf i (by simp [refsK])
    have h2 := hf j (by simp [refsK])
    rw [post, h1]
    simp only
    rw [h2]; rfl
/-- the first part that is not listed, listed ahead: the same -/
theorem post_first {sh : List (List Key)} {k : Nat} {ks : List Key} {t : Tr} (h : TrV sh k ks t) {ns : List (List Key)} {p r : List Nat} {c : Nat} (e : refsK ks = p ++ c :: r) (hp : ∀ i ∈ p, ∃ j, post (trOf sh i) ns = (ns, j)) :
    post t (post (trOf sh c) ns).1 = post t ns := by
  cases h with
  | «at» h => rw [h] at e; exact absurd e.symm (by simp)
  | @nt i h =>
    have e' : [i] = p ++ c :: r := by rw [← e]; simp [refsK]
    have : c = i := by
      match p, e' with
      | [], e' => exact (List.cons.inj e').1.symm
      | a :: p, e' => exact absurd (congrArg List.length e') (by simp)
    subst this
    rw [post, post, post_again]
  | @jn w i j h hi hj =>
    have e' : [i, j] = p ++ c :: r := by rw [← e]; simp [refsK]
    match p, e', hp with
    | [], e', _ =>
      have : c = i := (List.cons.inj e').1.symm
      subst this
      rw [post, post, post_again]
    | [a], e', hp =>
      have h1 : a = i := (List.cons.inj e').1.symm
      have h2 : c = j := (List.cons.inj (List.cons.inj e').2).1.symm
      subst h1 h2
      obtain ⟨j1, hj1⟩ := hp a (by simp)
      obtain ⟨e2, h2⟩ := post_ext (trOf sh c) ns
      have s := post_stay _ _ _ hj1 e2
      rw [← h2] at s
      rw [post, post, s, hj1]
      simp only
      rw [post_again]
    | a :: b :: p, e', _ => exact absurd (congrArg List.length e') (by simp)
end L2.EV
set_option maxHeartbeats 1000000
/-! K01L27: tidied. -/
namespace L2.EV
open PySem PySem.Spec PyProof.Rows
theorem valK_put {κ : Type} [DecidableEq κ] (k k' : κ) (d : D) (kvs : List (κ × D)) (h : valK kvs k = none) : valK (putD kvs k d) k' = if k' = k then some d else valK kvs k' := by
  have h0 : kvs.find? (fun p => decide (p.1 = k)) = none := by simpa [valK] using h
  have h1 : (kvs.any fun kv => decide (kv.1 = k)) = false := by
    rw [Bool.eq_false_iff]; intro q
    obtain ⟨x, hx, e⟩ := List.any_eq_true.mp q
    exact List.find?_eq_none.mp h0 x hx e
  have e : putD kvs k d = kvs ++ [(k, d)] := by unfold putD; rw [h1]; rfl
  rw [e]
  unfold valK
  rw [List.find?_append]
  by_cases q : k' = k
  · subst q; rw [h0, if_pos rfl]; simp
  · rw [if_neg q]
    cases f : kvs.find? (fun p => decide (p.1 = k')) with
    | some x => simp
    | none => simp [Ne.symm q]
theorem putD_len {κ : Type} [DecidableEq κ] (k : κ) (d : D) (kvs : List (κ × D)) : (putD kvs k d).length ≤ kvs.length + 1 := by
  unfold putD; split
  · rw [List.length_map]; exact Nat.le_succ _
  · simp
theorem countP_one {α : Type} {p q : α → Bool} {x : α} (hx : p x = true) (hq : q x = false) (h : ∀ y, q y = true → p y = true) : ∀ {l : List α}, x ∈ l → l.countP q + 1 ≤ l.countP p
  | y :: l, hm => by
    have mono : l.countP q ≤ l.countP p := List.countP_mono_left fun y _ => h y
    rw [List.countP_cons, List.countP_cons]
    by_cases e : y = x
    · subst e; rw [hx, hq]; simp; omega
    · have := countP_one hx hq h (l := l) (by rcases List.mem_cons.mp hm with r | r; exact absurd r.symm e; exact r)
      cases q1 : q y with
      | true => rw [h y q1]; simp; omega
      | false => simp; omega
def und (N : Nat) (kvs : List (Key × D)) : Nat := (List.range N).countP fun i => (getD kvs i).isNone
def contS (sh : List (List Key)) (st : List Nat) (ns : List (List Key)) : List (List Key) := st.foldl (fun ns x => (post (trOf sh x) ns).1) ns
structure TdM (sh : List (List Key)) (fin : List (List Key)) (ns : List (List Key)) (kvs : List (Key × D)) (st : List Nat) : Prop where
  num : ∀ i d, getD kvs i = some d → ∃ j, d = dI j ∧ post (trOf sh i) ns = (ns, j)
  stk : ∀ x ∈ st, x < sh.length ∧ getD kvs x = none
  ord : st.Pairwise (· < ·)
  cnt : kvs.length + und sh.length kvs ≤ sh.length
  len : ns.length ≤ kvs.length
  cont : contS sh st ns = fin
structure TdA (m0 m : Mem) (l n k nu wa : Addr) (ns : List (List Key)) (kvs : List (Key × D)) (st : List Nat) : Prop where
  sub : Sub m0 m
  L : ListerAt m l n k ns
  mnu : m nu = some (.dK kvs)
  mwa : m wa = some (.lst ((st.map dI).reverse))
  fn : m0 n = none
  fk : m0 k = none
  fnu : m0 nu = none
  fwa : m0 wa = none
  ne : n ≠ wa
theorem TdM.push {z : Str} {sh fin ns : List (List Key)} {kvs : List (Key × D)} {one c : Nat} {st p r : List Nat} {ks : List Key} (h : TdM sh fin ns kvs (one :: st)) (hv : SheetV z sh) (hk : sh[one]? = some ks) (e : refsK ks = p ++ c :: r) (hp : ∀ i ∈ p, ∃ d, getD kvs i = some d) (hc : getD kvs c = none) : TdM sh fin ns kvs (c :: one :: st) ∧ c < one := by
  have hvn := hv one ks hk
  have hlt : c < one := by
    have hm : c ∈ refsK ks := by rw [e]; simp
    cases hvn with
    | al h => simp [refsK] at hm
    | ho h => simp [refsK] at hm
    | re h h1 h2 => simp [refsK] at hm
    | nt h => simp [refsK] at hm; omega
    | jn h h1 h2 => simp [refsK] at hm; omega
  have hone := (h.stk one (List.mem_cons_self ..)).1
  refine ⟨⟨h.num, fun x hx => ?_, ?_, h.cnt, h.len, ?_⟩, hlt⟩
  · rcases List.mem_cons.mp hx with rfl | hx
    · exact ⟨by omega, hc⟩
    · exact h.stk x hx
  · refine List.pairwise_cons.mpr ⟨fun x hx => ?_, h.ord⟩
    rcases List.mem_cons.mp hx with rfl | hx
    · exact hlt
    · exact Nat.lt_trans hlt ((List.pairwise_cons.mp h.ord).1 x hx)
  · rw [← h.cont]
    show contS sh (one :: st) (post (trOf sh c) ns).1 = contS sh (one :: st) ns
    show contS sh st (post (trOf sh one) (post (trOf sh c) ns).1).1 = contS sh st (post (trOf sh one) ns).1
    rw [post_first (trOf_v hv hk) e fun i hi => by
      obtain ⟨d, hd⟩ := hp i hi
      obtain ⟨j, _, hj⟩ := h.num i d hd
      exact ⟨j, hj⟩]
theorem TdM.pop {z : Str} {sh fin ns : List (List Key)} {kvs : List (Key × D)} {one : Nat} {st : List Nat} {ks : List Key} {f : Nat → Nat} (h : TdM sh fin ns kvs (one :: st)) (hv : SheetV z sh) (hk : sh[one]? = some ks) (hf : ∀ i ∈ refsK ks, getD kvs i = some (dI (f i))) :
    TdM sh fin (putN ns (ren f ks)).1 (putD kvs (.inl (one : Nat)) (dI (putN ns (ren f ks)).2)) st ∧ und sh.length (putD kvs (.inl (one : Nat)) (dI (putN ns (ren f ks)).2)) + 1 ≤ und sh.length kvs := by
  obtain ⟨h1, h2⟩ := h.stk one (List.mem_cons_self ..)
  have hp : post (trOf sh one) ns = putN ns (ren f ks) := post_ren (trOf_v hv hk) fun i hi => by
    obtain ⟨j, ej, hj⟩ := h.num i _ (hf i hi)
    have : f i = j := by have := D.int.inj (show D.int ((f i : Nat) : Int) = D.int (j : Nat) from ej); omega
    rw [hj, this]
  have ge : ∀ i d, getD (putD kvs (.inl (one : Nat)) d) i = if i = one then some d else getD kvs i := fun i d => by
    unfold getD; rw [valK_put _ _ _ _ h2]
    by_cases q : i = one
    · subst q; rw [if_pos rfl, if_pos rfl]
    · rw [if_neg q, if_neg (by intro z; exact q (by have := Sum.inl.inj z; omega))]
  have hu : und sh.length (putD kvs (.inl (one : Nat)) (dI (putN ns (ren f ks)).2)) + 1 ≤ und sh.length kvs := by
    refine countP_one (x := one) (by rw [h2]; rfl) (by rw [ge, if_pos rfl]; rfl) (fun y hy => ?_) (List.mem_range.mpr h1)
    rw [ge] at hy
    split at hy
    · cases hy
    · exact hy
  obtain ⟨e, he⟩ := putN_ext ns (ren f ks)
  have hl := putD_len (.inl ((one : Nat) : Int)) (dI (putN ns (ren f ks)).2) kvs
  refine ⟨⟨fun i d hd => ?_, fun x hx => ?_, (List.pairwise_cons.mp h.ord).2, ?_, ?_, ?_⟩, hu⟩
  · rw [ge] at hd
    split at hd
    · rename_i q; subst q
      cases hd
      refine ⟨_, rfl, ?_⟩
      have := post_again (trOf sh i) ns
      rw [hp] at this; exact this
    · obtain ⟨j, ej, hj⟩ := h.num i d hd
      refine ⟨j, ej, ?_⟩
      rw [he]; exact post_stay _ _ _ hj e
  · refine ⟨(h.stk x (List.mem_cons_of_mem _ hx)).1, ?_⟩
    rw [ge, if_neg (by have := (List.pairwise_cons.mp h.ord).1 x hx; omega)]
    exact (h.stk x (List.mem_cons_of_mem _ hx)).2
  · have := h.cnt; omega
  · have := h.len
    have h3 := putN_le (ns := ns) (ks := ren f ks)
    have h4 : (putD kvs (.inl ((one : Nat) : Int)) (dI (putN ns (ren f ks)).2)).length = kvs.length + 1 := by
      have h0 : kvs.find? (fun p => decide (p.1 = (.inl ((one : Nat) : Int) : Key))) = none := by simpa [valK, getD] using h2
      have h1 : (kvs.any fun kv => decide (kv.1 = (.inl ((one : Nat) : Int) : Key))) = false := by
        rw [Bool.eq_false_iff]; intro q
        obtain ⟨x, hx, e⟩ := List.any_eq_true.mp q
        exact List.find?_eq_none.mp h0 x hx e
      unfold putD; rw [h1]; simp
    omega
  · rw [← h.cont]
    show contS sh st _ = contS sh st (post (trOf sh one) ns).1
    rw [hp]
/-- the measure of the loop -/
def topV : List Nat → Nat
  | [] => 0
  | x :: _ => x + 1
def tdF (N : Nat) (kvs : List (Key × D)) (st : List Nat) : Nat := und N kvs * (N + 1) + topV st
theorem topV_le {N : Nat} {st : List Nat} (h : ∀ x ∈ st, x < N) : topV st ≤ N := by
  cases st with
  | nil => exact Nat.zero_le _
  | cons x st => exact h x (List.mem_cons_self ..)
theorem mem_refs_lt {z : Str} {k : Nat} {ks : List Key} (h : NodeV z k ks) : ∀ i ∈ refsK ks, i < k := fun c hm => by
  cases h with
  | al h => simp [refsK] at hm
  | ho h => simp [refsK] at hm
  | re h h1 h2 => simp [refsK] at hm
  | nt h => simp [refsK] at hm; omega
  | jn h h1 h2 => simp [refsK] at hm; omega
theorem filter_first {α : Type} {b : α → Bool} : ∀ {l : List α} {c : α} {r : List α}, l.filter b = c :: r → ∃ p r', l = p ++ c :: r' ∧ (∀ x ∈ p, b x = false) ∧ b c = true
  | x :: l, c, r, h => by
    cases q : b x with
    | true =>
      rw [List.filter_cons_of_pos q] at h
      obtain ⟨rfl, _⟩ := List.cons.inj h
      exact ⟨[], l, rfl, fun _ h => (by cases h), q⟩
    | false =>
      rw [List.filter_cons_of_neg (by rw [q]; exact Bool.false_ne_true)] at h
      obtain ⟨p, r', e, h1, h2⟩ := filter_first h
      refine ⟨x :: p, r', by rw [e]; rfl, fun y hy => ?_, h2⟩
      rcases List.mem_cons.mp hy with rfl | hy
      · exact q
      · exact h1 y hy
theorem kindNe {m : Mem} {a b : Addr} {xs : List D} {kvs : List (Key × D)} (h : m a = some (.lst xs)) (k : m b = some (.dK kvs)) : a ≠ b := ne_kind h k (fun z => by cases z)
def rTdCond : ET := tOf (eBin dGt (eB bLen (aCons (eVar 5) aNil)) (eK (.int 0)))
def rTdBody : ES := (sSeq (sAsg (gN 6) (eBin (dIx TT) (eVar 5) (eUn dNeg (eK (.int 1)))))
   (sSeq (sAsg (gN 7) (eLc (iSeq (eCallL LTt 1 (aCons (eBin (dIx TT) (eVar 0) (eVar 6)) aNil))) (gN 8) (tOf (eBin (dNotIn TT) (eVar 8) (eVar 4))) (eVar 8) [8]))
   (sSeq (sIf (tOf (eBin dGt (eB bLen (aCons (eVar 7) aNil)) (eK (.int 0))))
    (sSeq (sExpr (eM isLst mAppend (eVar 5) (aCons (eBin (dIx TT) (eVar 7) (eK (.int 0))) aNil)))
    sCont)
    sNil)
   (sSeq (sExpr (eM isLst mPop (eVar 5) aNil))
   (sIf (tOf (eBin (dNotIn TT) (eVar 6) (eVar 4)))
    (sSetIx (eVar 4) (eVar 6) (eMeth "Lister" "put" (shG g_Lister_put) [] (eVar 3) (aCons (eCallL LTt 2 (aCons (eBin (dIx TT) (eVar 0) (eVar 6)) (aCons (eVar 4) aNil))) aNil)))
    sNil)))))
theorem atI_dn {sh : List (List Key)} {i : Nat} {ks : List Key} (h : sh[i]? = some ks) : atI (sh.map dN) ((i : Nat) : Int) = some (dN ks) := by
  exact atI_nat (by rw [List.getElem?_map, h]; rfl)
theorem td_loop {z : Str} {sh fin : List (List Key)} (hv : SheetV z sh) (hz : sh.length ≤ 2000) {l n k nu wa : Addr} {m0 : Mem} {Z : Zs}
    (hf : ∀ m ns kvs o6 o7, TdA m0 m l n k nu wa ns kvs [] → TdM sh fin ns kvs [] → Z.nx [some (.tup (sh.map dN)), some (.glob "referred"), some (.glob "renumbered"), some (.ref l), some (.ref nu), some (.ref wa), o6, o7, none] m) :
    ∀ (f : Nat) (m : Mem) (ns : List (List Key)) (kvs : List (Key × D)) (st : List Nat) (o6 o7 : Option D), TdA m0 m l n k nu wa ns kvs st → TdM sh fin ns kvs st → tdF sh.length kvs st < f →
    whileN rTdCond rTdBody f [some (.tup (sh.map dN)), some (.glob "referred"), some (.glob "renumbered"), some (.ref l), some (.ref nu), some (.ref wa), o6, o7, none] m Z
  | 0, _, _, _, _, _, _, _, _, h => absurd h (Nat.not_lt_zero _)
  | f + 1, m, ns, kvs, [], o6, o7, A, M, h => by
    simp only [whileN, rTdCond, tOf, eBin, eB, aCons, aNil, eVar, eK, List.getElem?_cons_zero, List.getElem?_cons_succ, bLen, d1Q, lenQ, A.mwa, dGt, bK]
    exact ⟨fun q => absurd q (by decide), fun _ => hf m ns kvs o6 o7 A M⟩
  | f + 1, m, ns, kvs, one :: st, o6, o7, A, M, h => by
    have hone := M.stk one (List.mem_cons_self ..)
    have hk : sh[one]? = some (sh[one]'hone.1) := List.getElem?_eq_getElem hone.1
    generalize sh[one]'hone.1 = ks at hk
    have hn := hv one ks hk
    obtain ⟨w, args, fm, e1, e2, e3, e4, e5, e6⟩ := hn.form
    have lt1 : LTt "referred" = some (shG g_referred) := rfl
    have lt2 : LTt "renumbered" = some g_renumbered := by
      unfold LTt; rw [if_neg (by decide +kernel), if_pos rfl]
    have nwn : nu ≠ wa := (kindNe A.mwa A.mnu).symm
    rw [whileN]
    simp only [rTdCond, tOf, eBin, eB, aCons, aNil, eVar, eK, List.getElem?_cons_zero, List.getElem?_cons_succ, bLen, d1Q, lenQ, A.mwa, dGt, bK]
    rw [decide_eq_true (by rw [List.length_reverse, List.length_map, List.length_cons]; omega)]
    refine ⟨fun _ => ?_, fun q => (by cases q)⟩
    have wa1 : m wa = some (.lst ((st.map dI).reverse ++ [dI one])) := by rw [A.mwa, List.map_cons, List.reverse_cons]
    have ix : ∀ Q : QD, dIx TT (.ref wa) (.int (-1)) m Q = Q (dI one) m := fun Q => by simp only [dIx, wa1, intQ, atI_last, someQ]
    have ix2 : ∀ (m : Mem) (Q : QD), dIx TT (.tup (sh.map dN)) (dI one) m Q = Q (dN ks) m := fun m Q => by
      simp only [dIx, dI, intQ]; rw [atI_dn hk]; rfl
    rw [rTdBody, sSeq]
    simp only [sAsg, eBin, eUn, dNeg, eVar, eK, List.getElem?_cons_zero, List.getElem?_cons_succ, ix, gN, List.set_cons_succ, List.set_cons_zero]
    rw [sSeq]
    simp only [sAsg, eLc, iSeq, eCallL, eBin, aCons, aNil, eVar, eK, List.getElem?_cons_zero, List.getElem?_cons_succ, lt1, optQ_some', ix2]
    refine hn.refer fun p hp => ?_
    simp only [iterQ, mup_same]
    intro p2 hp2
    have n1 : nu ≠ p := ne_new A.mnu hp
    have n2 : nu ≠ p2 := ne_new (show mup m p (.lst ((refsK ks).map dI)) nu = some _ by rw [mup_ne n1]; exact A.mnu) hp2
    have n3 : p ≠ p2 := ne_new mup_same hp2
    have hp2m : m p2 = none := by rw [mup_ne n3.symm] at hp2; exact hp2
    have nt : ∀ (i : Nat) (acc : List D) (Q : QD), dNotIn TT (dI i) (.ref nu) (mup (mup m p (.lst ((refsK ks).map dI))) p2 (.lst acc)) Q = Q (.bl (!(getD kvs i).isSome)) (mup (mup m p (.lst ((refsK ks).map dI))) p2 (.lst acc)) := fun i acc Q => by
      simp only [dNotIn, dInB]
      rw [mup_ne n2, mup_ne n1, A.mnu]
      rfl
    refine lc_ex (f := fun d => d) (b := fun d => match d with
      | .int i => !(getD kvs i.toNat).isSome
      | _ => false) (fun acc => ?_) (fun x hx acc k hk => ?_) (fun x hx hb acc k hk => ?_) ?_ ?_
    · rw [mup_ne n3, mup_same]
    · obtain ⟨i, hi, rfl⟩ := List.mem_map.mp hx
      simp only [wipeD, tOf, eBin, eVar, List.set_cons_succ, List.set_cons_zero, List.getElem?_cons_zero, List.getElem?_cons_succ, nt, bK]
      exact hk
    · simp only [wipeD, eVar, List.set_cons_succ, List.set_cons_zero, List.getElem?_cons_zero, List.getElem?_cons_succ]
      exact hk
    · rw [List.length_map, sizeLine_eq]; omega
    have ef : (((refsK ks).map dI).filter fun d => match d with
      | .int i => !(getD kvs i.toNat).isSome
      | _ => false).map (fun d => d) = ((refsK ks).filter fun i => !(getD kvs i).isSome).map dI := by
      rw [List.map_id', List.filter_map]; rfl
    rw [ef]
    have subm : ∀ o, Sub m (mup (mup m p (.lst ((refsK ks).map dI))) p2 o) := fun o => (sub_p hp).trans (sub_p hp2)
    simp only [gN, List.set_cons_succ, List.set_cons_zero]
    rw [sSeq]
    simp only [sIf, tOf, eBin, eB, aCons, aNil, eVar, eK, List.getElem?_cons_zero, List.getElem?_cons_succ, bLen, d1Q, lenQ, mup_same, dGt, bK, List.length_map]
    have wap : wa ≠ p := ne_new A.mwa hp
    have wap2 : wa ≠ p2 := ne_new A.mwa hp2m
    cases hfl : (refsK ks).filter fun i => !(getD kvs i).isSome with
    | cons c r =>
      obtain ⟨p1, r', er, hp1, hc⟩ := filter_first hfl
      rw [decide_eq_true (by rw [List.length_cons]; omega)]
      refine ⟨fun _ => ?_, fun q => (by cases q)⟩
      have at0 : atI ((c :: r).map dI) 0 = some (dI c) := by rw [show (0 : Int) = ((0 : Nat) : Int) from rfl, atI_nat]; rfl
      have hc' : getD kvs c = none := by cases q : getD kvs c with
        | none => rfl
        | some d => rw [q] at hc; cases hc
      have hpush := M.push hv hk er (fun i hi => by
        have := hp1 i hi
        cases q : getD kvs i with
        | none => rw [q] at this; cases this
        | some d => exact ⟨d, rfl⟩) hc'
      simp only [sSeq, sExpr, eM, aCons, aNil, eBin, eVar, eK, List.getElem?_cons_zero, List.getElem?_cons_succ, isLst, dIx, mup_same, intQ, at0, someQ, mAppend, lstQ, d1Q, sCont]
      rw [mup_ne wap2, mup_ne wap, A.mwa]
      have nodup : (one :: st).length ≤ sh.length := by
        have : ∀ (b : Nat) (l : List Nat), l.Pairwise (· < ·) → (∀ x ∈ l, b ≤ x) → (∀ x ∈ l, x < sh.length) → l.length + b ≤ sh.length + (if l = [] then b else 0) := by
          intro b l
          induction l generalizing b with
          | nil => intro _ _ _; simp
          | cons x l ih =>
            intro h1 h2 h3
            have := ih (x + 1) (List.pairwise_cons.mp h1).2 (fun y hy => (List.pairwise_cons.mp h1).1 y hy) fun y hy => h3 y (List.mem_cons_of_mem _ hy)
            have hb := h2 x (List.mem_cons_self ..)
            have hx := h3 x (List.mem_cons_self ..)
            rw [if_neg (by simp)]
            split at this
            · rename_i q; subst q; simp; omega
            · simp only [List.length_cons]; omega
        have := this 0 (one :: st) M.ord (fun _ _ => Nat.zero_le _) (fun x hx => (M.stk x hx).1)
        simpa using this
      refine ⟨trivial, by rw [List.length_reverse, List.length_map, sizeLine_eq]; omega, mup m wa (.lst (((c :: one :: st).map dI).reverse)), ?_, ?_⟩
      · intro a o e
        by_cases q : a = wa
        · subst q; rw [mup_same] at e ⊢; rw [← e]; simp only [List.map_cons, List.reverse_cons]
        · rw [mup_ne q] at e ⊢; exact subm _ a o e
      · refine td_loop hv hz hf f _ ns kvs (c :: one :: st) _ _ ⟨?_, ⟨?_, ?_, ?_⟩, ?_, mup_same, A.fn, A.fk, A.fnu, A.fwa, A.ne⟩ hpush.1 ?_
        · exact fun a o e => by rw [mup_ne (ne_new e A.fwa)]; exact A.sub a o e
        · rw [mup_ne (ne_kind A.L.ins A.mwa (fun z => by cases z))]; exact A.L.ins
        · rw [mup_ne A.ne]; exact A.L.nodes
        · rw [mup_ne (ne_kind A.L.known A.mwa (fun z => by cases z))]; exact A.L.known
        · rw [mup_ne nwn]; exact A.mnu
        · unfold tdF at h ⊢
          simp only [topV] at h ⊢
          have := hpush.2
          omega
    | nil =>
      rw [decide_eq_false (by rw [List.length_nil]; decide)]
      refine ⟨fun q => (by cases q), fun _ => ?_⟩
      have hall : ∀ i ∈ refsK ks, ∃ j, getD kvs i = some (dI j) := fun i hi => by
        cases q : getD kvs i with
        | none =>
          have : i ∈ (refsK ks).filter fun i => !(getD kvs i).isSome := List.mem_filter.mpr ⟨hi, by rw [q]; rfl⟩
          rw [hfl] at this; cases this
        | some d =>
          obtain ⟨j, rfl, _⟩ := M.num i d q
          exact ⟨j, rfl⟩
      have hcf : ∃ g : Nat → Nat, ∀ i ∈ refsK ks, getD kvs i = some (dI (g i)) := by
        refine ⟨fun i => match getD kvs i with
          | some (.int j) => j.toNat
          | _ => 0, fun i hi => ?_⟩
        obtain ⟨j, hj⟩ := hall i hi
        show getD kvs i = some (dI (match getD kvs i with
          | some (.int j) => j.toNat
          | _ => 0))
        rw [hj]; rfl
      obtain ⟨g, hg⟩ := hcf
      obtain ⟨M', hu⟩ := M.pop hv hk hg
      simp only [sNil, sSeq, sExpr, eM, aNil, eVar, List.getElem?_cons_zero, List.getElem?_cons_succ, isLst]
      have wa2 : mup (mup m p (.lst ((refsK ks).map dI))) p2 (.lst (([] : List Nat).map dI)) wa = some (.lst ((st.map dI).reverse ++ [dI one])) := by rw [mup_ne wap2, mup_ne wap]; exact wa1
      rw [wa2, pop_last wa2]
      refine ⟨trivial, ?_⟩
      generalize hm2 : mup (mup (mup m p (.lst ((refsK ks).map dI))) p2 (.lst (([] : List Nat).map dI))) wa (.lst ((st.map dI).reverse)) = m2
      have up2 : ∀ a o, m a = some o → a ≠ wa → m2 a = some o := fun a o e q => by rw [← hm2, mup_ne q]; exact subm _ a o e
      have nu2 : m2 nu = some (.dK kvs) := up2 _ _ A.mnu nwn
      have nt2 : ∀ (Q : QD), dNotIn TT (dI one) (.ref nu) m2 Q = Q (.bl true) m2 := fun Q => by
        simp only [dNotIn, dInB, nu2]
        show Q (.bl (!(getD kvs one).isSome)) m2 = _
        rw [hone.2]; rfl
      simp only [sIf, tOf, eBin, eVar, List.getElem?_cons_zero, List.getElem?_cons_succ, nt2, bK]
      refine ⟨fun _ => ?_, fun q => (by cases q)⟩
      simp only [sSetIx, eMeth, eVar, List.getElem?_cons_zero, List.getElem?_cons_succ]
      have lw : l ≠ wa := ne_kind A.L.ins A.mwa (fun z => by cases z)
      have kw : k ≠ wa := ne_kind A.L.known A.mwa (fun z => by cases z)
      have L2 : ListerAt m2 l n k ns := ⟨up2 _ _ A.L.ins lw, up2 _ _ A.L.nodes A.ne, up2 _ _ A.L.known kw⟩
      rw [insQ_ref L2.ins]
      refine ⟨rfl, ?_⟩
      simp only [aCons, aNil, eCallL, eBin, eVar, List.getElem?_cons_zero, List.getElem?_cons_succ, lt2, optQ_some', ix2, List.append_nil]
      refine ⟨z, one, ks, nu, kvs, g, rfl, hn, nu2, hg, ?_⟩
      refine x_Lister_put L2 (by have := M.len; have := M.cnt; omega) ?_
      have nuk : nu ≠ k := ne_kind nu2 L2.known (fun z => by cases z)
      have nun : nu ≠ n := ne_kind nu2 L2.nodes (fun z => by cases z)
      have nu3 : lisM m2 n k (putN ns (ren g ks)).1 nu = some (.dK kvs) := by unfold lisM; rw [mup_ne nuk, mup_ne nun]; exact nu2
      simp only [dSetIx, nu3]
      have hcnt := M.cnt
      refine ⟨by rw [sizeLine_eq]; omega, mup (lisM (mup m wa (.lst ((st.map dI).reverse))) n k (putN ns (ren g ks)).1) nu (.dK (putD kvs (.inl (one : Nat)) (dI (putN ns (ren g ks)).2))), ?_, ?_⟩
      · refine Sub.up ?_
        unfold lisM
        refine Sub.up (Sub.up ?_)
        rw [← hm2]
        exact Sub.up (subm _)
      · have nkn : n ≠ k := ne_kind L2.nodes L2.known (fun z => by cases z)
        refine td_loop hv hz hf f _ _ _ st _ _ ⟨?_, ⟨?_, ?_, ?_⟩, mup_same, ?_, A.fn, A.fk, A.fnu, A.fwa, A.ne⟩ M' ?_
        · intro a o e
          unfold lisM
          rw [mup_ne (ne_new e A.fnu), mup_ne (ne_new e A.fk), mup_ne (ne_new e A.fn), mup_ne (ne_new e A.fwa)]
          exact A.sub a o e
        · unfold lisM
          rw [mup_ne (ne_kind A.L.ins A.mnu (fun z => by cases z)), mup_ne (ne_kind A.L.ins A.L.known (fun z => by cases z)), mup_ne (ne_kind A.L.ins A.L.nodes (fun z => by cases z)), mup_ne lw]
          exact A.L.ins
        · unfold lisM
          rw [mup_ne nun.symm, mup_ne nkn, mup_same]
        · unfold lisM
          rw [mup_ne nuk.symm, mup_same]
        · unfold lisM
          rw [mup_ne nwn.symm, mup_ne kw.symm, mup_ne A.ne.symm, mup_same]
        · unfold tdF at h ⊢
          simp only [topV] at h
          have h2 : topV st ≤ sh.length := topV_le fun x hx => (M.stk x (List.mem_cons_of_mem _ hx)).1
          have h3 : (und sh.length (putD kvs (.inl ((one : Nat) : Int)) (dI (putN ns (ren g ks)).2)) + 1) * (sh.length + 1) ≤ und sh.length kvs * (sh.length + 1) := Nat.mul_le_mul_right _ hu
          rw [Nat.add_mul] at h3
          omega
end L2.EV
set_option maxHeartbeats 1000000
/-! K01L28: tidied, tidy_over, tidy_saying. -/
namespace L2.EV
open PySem PySem.Spec PyProof.Rows
theorem und_le (N : Nat) (kvs : List (Key × D)) : und N kvs ≤ N := by
  unfold und
  have := List.countP_le_length (p := fun i => (getD kvs i).isNone) (l := List.range N)
  rwa [List.length_range] at this
theorem l_tidied {ds : List D} {m : Mem} {Q : QD} {X : XD} (h : g_tidied ds m Q X) : r_tidied (startD N_tidied.length ds) m (zsS Q X) := by
  obtain ⟨z, sh, rfl, ⟨hv, h1, h2⟩, h⟩ := h
  show r_tidied [some (.tup (sh.map dN)), some (.glob "referred"), some (.glob "renumbered"), none, none, none, none, none, none] m (zsS Q X)
  have h1000 : 1 ≤ sizeLine := by rw [sizeLine_eq]; decide
  simp only [r_tidied, sSeq, sAsg, eMake, eNewK, eLst, aCons, aNil, dRef, eBin, eB, eVar, eK, gN, List.getElem?_cons_zero, List.getElem?_cons_succ, List.set_cons_succ, List.set_cons_zero, List.append_nil, bLen, d1Q, lenQ, dSub]
  intro l hl
  refine x_Lister_init mup_same fun n k hn hk nk => ⟨rfl, fun nu hnu => ⟨(by show 1 ≤ _; exact h1000), fun wa hwa => ?_⟩⟩
  rw [mup_mup] at hnu hwa ⊢
  have nl : n ≠ l := fun e => by rw [e, mup_same] at hn; cases hn
  have kl : k ≠ l := fun e => by rw [e, mup_same] at hk; cases hk
  have hn0 : m n = none := by rw [mup_ne nl] at hn; exact hn
  have hk0 : m k = none := by rw [mup_ne kl] at hk; exact hk
  have La : ListerAt (lisM (mup m l (.ins "Lister" [("nodes", .ref n), ("known", .ref k)])) n k []) l n k [] := by
    unfold lisM
    exact ⟨by rw [mup_ne kl.symm, mup_ne nl.symm, mup_same], by rw [mup_ne nk, mup_same], mup_same⟩
  have nun : n ≠ nu := ne_new La.nodes hnu
  have nuk : k ≠ nu := ne_new La.known hnu
  have nul : l ≠ nu := ne_new La.ins hnu
  have hnu0 : m nu = none := by
    unfold lisM at hnu; rw [mup_ne nuk.symm, mup_ne nun.symm, mup_ne nul.symm] at hnu; exact hnu
  have wau : wa ≠ nu := fun e => by rw [e, mup_same] at hwa; cases hwa
  have hwa1 : lisM (mup m l (.ins "Lister" [("nodes", .ref n), ("known", .ref k)])) n k [] wa = none := by rw [mup_ne wau] at hwa; exact hwa
  have nwa : n ≠ wa := ne_new La.nodes hwa1
  have kwa : k ≠ wa := ne_new La.known hwa1
  have lwa : l ≠ wa := ne_new La.ins hwa1
  have hwa0 : m wa = none := by
    unfold lisM at hwa1; rw [mup_ne kwa.symm, mup_ne nwa.symm, mup_ne lwa.symm] at hwa1; exact hwa1
  have ew : ((sh.map dN).length : Int) - 1 = ((sh.length - 1 : Nat) : Int) := by rw [List.length_map]; omega
  rw [ew]
  refine ⟨_, td_loop (z := z) (fin := tidyS sh) (m0 := m) hv h2 (l := l) (n := n) (k := k) (nu := nu) (wa := wa) ?_ (tdF sh.length [] [sh.length - 1] + 1) _ [] [] [sh.length - 1] _ _ ⟨?_, ⟨?_, ?_, ?_⟩, ?_, mup_same, hn0, hk0, hnu0, hwa0, nwa⟩ ⟨?_, ?_, ?_, ?_, Nat.le_refl _, rfl⟩ (Nat.lt_succ_self _)⟩
  · intro m' ns kvs o6 o7 A M
    simp only [sRet, eB, aCons, aNil, eFld_eq, eVar, List.getElem?_cons_succ, List.getElem?_cons_zero]
    rw [fldG_ref A.L.ins ffL1 rfl]
    have e : ns = tidyS sh := M.cont
    simp only [bTuple, d1Q, tupQ, A.L.nodes]
    rw [e]
    exact shM_sub A.sub h
  · intro a o e
    rw [mup_ne (ne_new e hwa0), mup_ne (ne_new e hnu0)]
    unfold lisM
    rw [mup_ne (ne_new e hk0), mup_ne (ne_new e hn0), mup_ne (ne_new e hl)]
    exact e
  · rw [mup_ne lwa, mup_ne nul]; exact La.ins
  · rw [mup_ne nwa, mup_ne nun]; exact La.nodes
  · rw [mup_ne kwa, mup_ne nuk]; exact La.known
  · rw [mup_ne wau.symm, mup_same]
  · intro i d e; cases e
  · intro x hx
    rcases List.mem_cons.mp hx with rfl | hx
    · exact ⟨by omega, rfl⟩
    · cases hx
  · exact List.pairwise_cons.mpr ⟨fun _ hx => (by cases hx), .nil⟩
  · have := und_le sh.length ([] : List (Key × D))
    simpa using this
theorem l_tidy_over {ds : List D} {m : Mem} {Q : QD} {X : XD} (h : g_tidy_over ds m Q X) : r_tidy_over (startD N_tidy_over.length ds) m (zsS Q X) := by
  obtain ⟨z, sh, rfl, hv, h⟩ := h
  show r_tidy_over [some (.tup (sh.map dN))] m (zsS Q X)
  simp only [r_tidy_over, sRet, eCall, aCons, aNil, eVar, eK, List.getElem?_cons_zero, List.append_nil]
  exact ⟨z, sh, rfl, hv, shM_of h⟩
theorem l_tidy_saying {ds : List D} {m : Mem} {Q : QD} {X : XD} (h : g_tidy_saying ds m Q X) : r_tidy_saying (startD N_tidy_saying.length ds) m (zsS Q X) := by
  obtain ⟨z, d, sh, rfl, ty, ok, ⟨i1, i2, i3⟩, hv, h⟩ := h
  show r_tidy_saying [some (.str z), some d] m (zsS Q X)
  simp only [r_tidy_saying, sSeq, sExpr, sRet, eCall, aCons, aNil, eVar, eK, List.getElem?_cons_zero, List.getElem?_cons_succ, List.append_nil]
  refine x_check_names ty (fun _ => ?_) (fun q => by rw [ok] at q; cases q)
  refine x_sheet_over i1 ?_
  rw [i3 z hv.1]
  show g_tidy_over [deepD 30 m d] m _ _
  rw [i2]
  exact ⟨z, sh, rfl, hv, shM_of h⟩
end L2.EV
set_option maxHeartbeats 1000000
/-! K01M1: texts of trees with brackets; the words of a text. -/
namespace L2.EV
open PySem PySem.Spec PyProof.Rows
inductive PT where
  | atom (ks : List Key) | br (p : PT) | nt (p : PT) | jn (w : Str) (l r : PT)
def erase : PT → Tr
  | .atom ks => .atom ks
  | .br p => erase p
  | .nt p => .nt (erase p)
  | .jn w l r => .jn w (erase l) (erase r)
def bindJ (w : Str) : Nat := (bindOf w).getD 0
def bindP : PT → Nat
  | .atom _ => 5
  | .br _ => 5
  | .nt _ => 4
  | .jn w _ _ => bindJ w
def depP : PT → Nat
  | .atom _ => 0
  | .br p => depP p + 1
  | .nt p => depP p + 1
  | .jn _ l r => max (depP l) (depP r)
def leastL (w : Str) : Nat := if bindJ w = 0 then 1 else bindJ w
def leafV (z : Str) (ks : List Key) : Prop := ∀ k, NodeV z k ks
/-- a text that has the brackets it needs -/
def okP (z : Str) : PT → Prop
  | .atom ks => NodeV z 0 ks
  | .br p => okP z p
  | .nt p => 4 ≤ bindP p ∧ okP z p
  | .jn w l r => w ∈ joinL ∧ leastL w ≤ bindP l ∧ bindJ w + 1 ≤ bindP r ∧ okP z l ∧ okP z r
def wordsA : List Key → List Str
  | [.inr w] => [w]
  | [.inr w, .inr t] => [w, t]
  | [.inr w, .inr t, .inr u] => [t, w, u]
  | _ => []
def toks : PT → List Str
  | .atom ks => wordsA ks
  | .br p => "(" :: (toks p ++ [(")" : Str)])
  | .nt p => "not" :: toks p
  | .jn w l r => toks l ++ w :: toks r
def codes (w : Str) : List Nat := w.cps.toList
def wordC (w : Str) : Prop := codes w ≠ [] ∧ ∀ c ∈ codes w, isLow c = true
def tokC (w : Str) : Prop := w = "(" ∨ w = ")" ∨ wordC w
def sep (last w : Str) : List Nat := if last = "" ∨ last = "(" ∨ w = ")" then [] else [32]
def lay : Str → List Str → List Nat
  | _, [] => []
  | last, w :: ws => sep last w ++ (codes w ++ lay w ws)
/-! what is taken -/
inductive Takes : Rd → List Str → Rd → Prop
  | nil {R : Rd} : Takes R [] R
  | cons {R R' : Rd} {w : Str} {ws : List Str} (h : (takeWord R w).2 = true) (t : Takes (takeWord R w).1 ws R') : Takes R (w :: ws) R'
theorem Takes.app {R R1 R2 : Rd} {a b : List Str} (h : Takes R a R1) (k : Takes R1 b R2) : Takes R (a ++ b) R2 := by
  induction h with
  | nil => exact k
  | cons h _ ih => exact .cons h (ih k)
theorem Takes.one {R : Rd} {w : Str} (h : (takeWord R w).2 = true) : Takes R [w] (takeWord R w).1 := .cons h .nil
theorem s_opC : codes "(" = [40] := by decide +kernel
theorem s_clC : codes ")" = [41] := by decide +kernel
theorem str_of_codes {w : Str} : (⟨(codes w).toArray⟩ : Str) = w := by
  unfold codes; simp
theorem wordC.ne {w : Str} (h : wordC w) : w ≠ "" ∧ w ≠ "(" ∧ w ≠ ")" := by
  obtain ⟨h1, h2⟩ := h
  refine ⟨fun e => ?_, fun e => ?_, fun e => ?_⟩
  · subst e; exact h1 (by decide +kernel)
  · subst e; have := h2 40 (by rw [s_opC]; simp); exact absurd this (by decide)
  · subst e; have := h2 41 (by rw [s_clC]; simp); exact absurd this (by decide)
theorem takeWhile_low {a b : List Nat} (ha : ∀ c ∈ a, isLow c = true) (hb : ∀ c ∈ b.head?, isLow c = false) : (a ++ b).takeWhile isLow = a := by
  induction a with
  | nil =>
    cases b with
    | nil => rfl
    | cons c b => rw [List.nil_append, List.takeWhile_cons_of_neg (by rw [hb c (by simp)]; exact Bool.false_ne_true)]
  | cons c a ih =>
    rw [List.cons_append, List.takeWhile_cons_of_pos (ha c (List.mem_cons_self ..)), ih fun x hx => ha x (List.mem_cons_of_mem _ hx)]
theorem get_mid {pre t : List Nat} {c : Nat} : (pre ++ c :: t)[pre.length]? = some c := by simp
theorem drop_mid {pre t : List Nat} : (pre ++ t).drop pre.length = t := by simp
/-- a bracket or a word at its place -/
theorem scanW_tok {pre t : List Nat} {w : Str} (h : tokC w) (ht : wordC w → ∀ c ∈ t.head?, isLow c = false) : scanW (pre ++ (codes w ++ t)) pre.length = .ok (w, pre.length, pre.length + (codes w).length) := by
  rcases h with rfl | rfl | h
  · rw [s_opC]
    unfold scanW
    rw [List.cons_append, get_mid]
    simp only [true_or, if_true]
    rw [← s_op]; rfl
  · rw [s_clC]
    unfold scanW
    rw [List.cons_append, get_mid]
    simp only [or_true, if_true]
    rw [← s_cl]; rfl
  · have h' := h
    obtain ⟨h1, h2⟩ := h
    cases hc : codes w with
    | nil => exact absurd hc h1
    | cons c cs =>
      have hl : isLow c = true := h2 c (by rw [hc]; simp)
      unfold scanW
      rw [List.cons_append, get_mid]
      simp only
      have nc : ¬ (c = 40 ∨ c = 41) := by
        simp only [isLow, Bool.and_eq_true, decide_eq_true_eq] at hl; omega
      rw [if_neg nc, drop_mid]
      have e : (c :: (cs ++ t)).takeWhile isLow = c :: cs := by
        rw [← List.cons_append]
        exact takeWhile_low (fun x hx => h2 x (by rw [hc]; exact hx)) (ht h')
      rw [e, if_neg (by simp)]
      have : (⟨(c :: cs).toArray⟩ : Str) = w := by rw [← hc]; exact str_of_codes
      rw [this]
theorem sep_len {last w : Str} : (sep last w).length ≤ 1 := by unfold sep; split <;> simp
theorem head_lay {w w' : Str} {ws : List Str} (h : wordC w) (h' : tokC w') : ∀ c ∈ (lay w (w' :: ws)).head?, isLow c = false := by
  intro c hc
  obtain ⟨n1, n2, n3⟩ := h.ne
  unfold lay sep at hc
  by_cases q : w' = ")"
  · subst q
    rw [if_pos (.inr (.inr rfl)), s_clC] at hc
    simp at hc; subst hc; decide
  · rw [if_neg (by simp [n1, n2, q])] at hc
    simp at hc; subst hc; decide
theorem tok_first {w : Str} (h : tokC w) (q : w ≠ ")") : ∃ c cs, codes w = c :: cs ∧ c ≠ 41 := by
  rcases h with rfl | rfl | h
  · exact ⟨40, [], s_opC, by decide⟩
  · exact absurd rfl q
  · obtain ⟨h1, h2⟩ := h
    cases hc : codes w with
    | nil => exact absurd hc h1
    | cons c cs =>
      refine ⟨c, cs, rfl, fun e => ?_⟩
      have := h2 c (by rw [hc]; simp)
      subst e; exact absurd this (by decide)
/-- the next word of a text laid out -/
theorem scanF_tok {pre : List Nat} {last w : Str} {ws : List Str} (hl : last = "" ∨ tokC last) (h : tokC w) (hs : ∀ x ∈ ws, tokC x) :
    scanF (pre ++ lay last (w :: ws)) pre.length last = .ok (w, pre.length + (sep last w).length, pre.length + (sep last w).length + (codes w).length) := by
  have ht : wordC w → ∀ c ∈ (lay w ws).head?, isLow c = false := fun hw => by
    cases ws with
    | nil => intro c hc; cases hc
    | cons w' ws => exact head_lay hw (hs w' (List.mem_cons_self ..))
  unfold scanF
  by_cases q : last = "" ∨ last = "("
  · rw [if_pos q]
    have e : sep last w = [] := by
      unfold sep; rcases q with q | q
      · rw [if_pos (.inl q)]
      · rw [if_pos (.inr (.inl q))]
    unfold lay
    rw [e]
    exact scanW_tok h ht
  · rw [if_neg q]
    obtain ⟨q1, q2⟩ := not_or.mp q
    by_cases q3 : w = ")"
    · subst q3
      have e : sep last ")" = [] := by unfold sep; rw [if_pos (.inr (.inr rfl))]
      unfold lay
      rw [e]
      have := scanW_tok (pre := pre) h ht
      rw [List.nil_append]
      have g : (pre ++ (codes ")" ++ lay ")" ws))[pre.length]? = some 41 := by rw [s_clC, List.cons_append]; exact get_mid
      rw [g]
      exact this
    · have e : sep last w = [32] := by unfold sep; rw [if_neg (by simp [q1, q2, q3])]
      unfold lay
      rw [e]
      have g : (pre ++ ([32] ++ (codes w ++ lay w ws)))[pre.length]? = some 32 := by rw [List.cons_append]; exact get_mid
      rw [g]
      obtain ⟨c, cs, hc, n41⟩ := tok_first h q3
      have g2 : (pre ++ ([32] ++ (codes w ++ lay w ws)))[pre.length + 1]? = some c := by
        rw [← List.append_assoc, hc, show pre.length + 1 = (pre ++ [32]).length by simp, List.cons_append]
        exact get_mid
      have := scanW_tok (pre := pre ++ [32]) h ht
      rw [List.append_assoc, List.length_append] at this
      simp only [g2]
      split
      · rename_i z; cases z
      · rename_i z; cases z; exact absurd rfl n41
      · exact this
theorem scanF_end {pre : List Nat} {last : Str} : scanF pre pre.length last = .ok ("", pre.length, pre.length) := by
  have g : pre[pre.length]? = none := by simp
  unfold scanF scanW
  rw [g]
  split <;> rfl
/-- reading a text whose words are all taken -/
theorem readGo_toks : ∀ (ws : List Str) (f : Nat) (pre : List Nat) (last : Str) (R R' : Rd), ws.length < f → (last = "" ∨ tokC last) → (∀ x ∈ ws, tokC x) → Takes R ws R' → mayEnd R' = true →
    readGo (pre ++ lay last ws) f pre.length last R = .ok (reduceR R' 0).ns
  | [], 0, _, _, _, _, h, _, _, _, _ => absurd h (Nat.not_lt_zero _)
  | _ :: _, 0, _, _, _, _, h, _, _, _, _ => absurd h (Nat.not_lt_zero _)
  | [], f + 1, pre, last, R, R', h, hl, hs, T, hm => by
    cases T
    rw [readGo, lay, List.append_nil, scanF_end]
    simp only [if_true]
    rw [if_pos hm]
  | w :: ws, f + 1, pre, last, R, R', h, hl, hs, T, hm => by
    have hw := hs w (List.mem_cons_self ..)
    have hs' : ∀ x ∈ ws, tokC x := fun x hx => hs x (List.mem_cons_of_mem _ hx)
    rw [readGo, scanF_tok hl hw hs']
    cases T with
    | cons ok T =>
      have ne : w ≠ "" := by
        rcases hw with rfl | rfl | hw
        · decide +kernel
        · decide +kernel
        · exact hw.ne.1
      simp only
      rw [if_neg ne, if_pos ok]
      have ih := readGo_toks ws f (pre ++ sep last w ++ codes w) w (takeWord R w).1 R' (by simp at h; omega) (.inr hw) hs' T hm
      rw [List.length_append, List.length_append] at ih
      rw [← ih]
      simp only [lay, List.append_assoc]
end L2.EV
set_option maxHeartbeats 1000000
/-! K01M2: reading a tree's words lists its nodes. -/
namespace L2.EV
open PySem PySem.Spec PyProof.Rows
/-- letters of names: none is a bracket -/
def zOk (z : Str) : Prop := ∀ c ∈ z.cps.toList, isLow c = true
theorem joinL_bind {w : Str} (h : w ∈ joinL) : bindOf w = some (bindJ w) ∧ bindJ w ≤ 3 ∧ w ≠ "not" ∧ w ≠ ")" ∧ (w = "adds" → bindJ w = 0) ∧ (bindJ w = 0 → w = "adds") := by
  have e : ∀ w ∈ joinL, bindOf w = some (bindJ w) ∧ bindJ w ≤ 3 ∧ w ≠ "not" ∧ w ≠ ")" ∧ (w = "adds" → bindJ w = 0) ∧ (bindJ w = 0 → w = "adds") := by decide +kernel
  exact e w h
theorem reduceS_stop {b : Nat} {ns : List (List Key)} {ops : List Nat} {js : List Str} (h : ∀ j ∈ js.head?, bindJ j < b) : reduceS b ns ops js = (ns, ops, js) := by
  match ops, js, h with
  | [], _, _ => unfold reduceS; rfl
  | [_], _, _ => unfold reduceS; rfl
  | _ :: _ :: _, [], _ => rfl
  | s :: f :: ops, j :: js, h =>
    rw [reduceS, if_neg]
    have := h j (by simp)
    unfold bindJ at this; omega
theorem reduceS_nil {b : Nat} {ns : List (List Key)} {ops : List Nat} : reduceS b ns ops [] = (ns, ops, []) := reduceS_stop (fun _ h => (by cases h))
structure PaseOk (R : Rd) (L : Lv) (Ls : List Lv) (p : PT) : Prop where
  aw : R.aw = "operand"
  lv : R.lvs = L :: Ls
  nots : bindP p < 4 → L.nots = 0
  js : ∀ j ∈ L.joins, j ∈ joinL
  hd : ∀ j ∈ L.joins.head?, bindJ j < bindP p
  op : R.opened + depP p ≤ 30
structure PaseTo (R : Rd) (L : Lv) (Ls : List Lv) (p : PT) (R' : Rd) : Prop where
  aw : R'.aw = "join"
  let' : R'.letters = R.letters
  ex : ∃ L' js, R'.lvs = L' :: Ls ∧ L'.nots = 0 ∧ L'.joins = js ++ L.joins ∧ (∀ j ∈ js, j ∈ joinL ∧ bindP p ≤ bindJ j) ∧
    ∀ b, b ≤ bindP p → reduceS b R'.ns L'.ops L'.joins = reduceS b (notsS L.nots (post (erase p) R.ns).1 (post (erase p) R.ns).2).1 ((notsS L.nots (post (erase p) R.ns).1 (post (erase p) R.ns).2).2 :: L.ops) L.joins
  op : R'.opened = R.opened - L.nots
/-- an operand finished -/
theorem paseFin {R R0 : Rd} {L : Lv} {Ls : List Lv} {p : PT} (hlv : R0.lvs = L :: Ls) (hn : R0.ns = (post (erase p) R.ns).1) (hl : R0.letters = R.letters) (ho : R0.opened = R.opened) {i : Nat} (hi : i = (post (erase p) R.ns).2) : PaseTo R L Ls p (finishR R0 i) := by
  subst hi
  unfold finishR
  rw [hlv]
  refine ⟨rfl, hl, ⟨_, [], rfl, rfl, rfl, fun _ h => (by cases h), fun b _ => ?_⟩, ?_⟩
  · simp only; rw [hn]
  · simp only; rw [ho]
theorem putR_fin (R : Rd) (ks : List Key) : putR R ks = finishR { R with ns := (putN R.ns ks).1 } (putN R.ns ks).2 := rfl
/-- what a term is not -/
theorem term_not {z t : Str} (hz : zOk z) (h : termOk z (.str t) = true) : t ≠ "(" ∧ t ≠ "not" ∧ t ∉ aloneL ∧ t ≠ "holds" ∧ wordC t ∧ PyData.strOk t = true := by
  have nil : ("nil" : Str) ≠ "(" ∧ ("nil" : Str) ≠ "not" ∧ ("nil" : Str) ∉ aloneL ∧ ("nil" : Str) ≠ "holds" ∧ (codes "nil" ≠ [] ∧ ∀ c ∈ codes "nil", isLow c = true) ∧ PyData.strOk "nil" = true := by decide +kernel
  simp only [termOk, Bool.or_eq_true, decide_eq_true_eq, Bool.and_eq_true, List.all_eq_true] at h
  rcases h with rfl | ⟨h1, h2⟩
  · exact nil
  · have el : t.cps.toList.length = 1 := by rw [Array.length_toList]; exact h1
    match hc : t.cps.toList, el with
    | [c], _ =>
      have hlow : isLow c = true := hz c (by have := h2 c (by rw [hc]; simp); simpa using this)
      have et : t = ⟨#[c]⟩ := by rw [← str_of_codes (w := t)]; unfold codes; rw [hc]
      have ne : ∀ w : Str, codes w ≠ [c] → t ≠ w := fun w hw e => hw (by rw [← e]; exact hc)
      have long : ∀ w : Str, 1 < (codes w).length → t ≠ w := fun w hw => ne w (fun e => by rw [e] at hw; simp at hw)
      refine ⟨ne _ (fun e => ?_), long _ (by decide +kernel), fun m => ?_, long _ (by decide +kernel), ⟨?_, fun x hx => ?_⟩, ?_⟩
      · rw [s_opC] at e; have := (List.cons.inj e).1; subst this; exact absurd hlow (by decide)
      · have : ∀ w ∈ aloneL, 1 < (codes w).length := by decide +kernel
        exact long t (this t m) rfl
      · unfold codes; rw [hc]; simp
      · unfold codes at hx; rw [hc] at hx
        have := List.mem_singleton.mp hx; subst this; exact hlow
      · rw [et]; exact sgOk c (isLow_lt hlow)
theorem tw_op {R : Rd} {w : Str} (h : R.aw = "operand") : takeWord R w = takeOperand R w := by unfold takeWord; rw [if_pos h]
theorem tw_join {R : Rd} {w : Str} (h : R.aw = "join") : takeWord R w = takeJoin R w := by unfold takeWord; rw [if_neg (by rw [h]; exact s_oj.symm), if_pos h]
theorem tw_term {R : Rd} {t : Str} (h : R.aw = "term") (ht : termOk R.letters (.str t) = true) : takeWord R t = (putR R (R.begun ++ [.inr t]), true) := by
  have n1 : ¬ R.aw = "operand" := by rw [h]; decide +kernel
  have n2 : ¬ R.aw = "join" := by rw [h]; decide +kernel
  have n3 : ¬ R.aw = "relation" := by rw [h]; decide +kernel
  unfold takeWord; rw [if_neg n1, if_neg n2, if_neg n3, if_pos ht]
theorem tw_rel {R : Rd} {w : Str} (h : R.aw = "relation") (hw : w ∈ relL) : takeWord R w = ({ R with begun := .inr w :: R.begun, aw := "term" }, true) := by
  have n1 : ¬ R.aw = "operand" := by rw [h]; decide +kernel
  have n2 : ¬ R.aw = "join" := by rw [h]; decide +kernel
  unfold takeWord; rw [if_neg n1, if_neg n2, if_pos h, if_pos hw]
theorem Takes.pair {R R' : Rd} {w : Str} (h : takeWord R w = (R', true)) : Takes R [w] R' := by
  have := Takes.one (R := R) (w := w) (by rw [h])
  rw [h] at this; exact this
theorem pase_atom {R : Rd} {L : Lv} {Ls : List Lv} {ks : List Key} (hz : zOk R.letters) (hv : NodeV R.letters 0 ks) (ok : PaseOk R L Ls (.atom ks)) : ∃ R', Takes R (toks (.atom ks)) R' ∧ PaseTo R L Ls (.atom ks) R' := by
  cases hv with
  | @al w h =>
    refine ⟨putR R [.inr w], .pair ?_, paseFin (R := R) (p := .atom [.inr w]) (R0 := { R with ns := (putN R.ns [.inr w]).1 }) ok.lv rfl rfl rfl rfl⟩
    have hw : ∀ w ∈ aloneL, ¬ (w = "(" ∨ w = "not") ∧ (w = "yes" ∨ w = "no" ∨ w = "bare") := by decide +kernel
    obtain ⟨a, b⟩ := hw w h
    rw [tw_op ok.aw]; unfold takeOperand; rw [if_neg a, if_pos b]
  | @ho t h =>
    have hw : ¬ (("holds" : Str) = "(" ∨ ("holds" : Str) = "not") ∧ ¬ (("holds" : Str) = "yes" ∨ ("holds" : Str) = "no" ∨ ("holds" : Str) = "bare") := by decide +kernel
    have e1 : takeWord R "holds" = ({ R with begun := [.inr "holds"], aw := "term" }, true) := by
      rw [tw_op ok.aw]; unfold takeOperand; rw [if_neg hw.1, if_neg hw.2, if_pos rfl]
    refine ⟨_, (Takes.pair e1).app (.pair (tw_term rfl h)), ?_⟩
    exact paseFin (R := R) (p := .atom [.inr "holds", .inr t]) (R0 := { R with begun := [.inr "holds"], aw := "term", ns := (putN R.ns [.inr "holds", .inr t]).1 }) ok.lv rfl rfl rfl rfl
  | @re w t u h ht hu =>
    obtain ⟨t1, t2, t3, t4, _⟩ := term_not hz ht
    have e1 : takeWord R t = ({ R with begun := [.inr t], aw := "relation" }, true) := by
      rw [tw_op ok.aw]; unfold takeOperand
      rw [if_neg (by intro q; rcases q with q | q; exact t1 q; exact t2 q), if_neg (by intro q; exact t3 (by rcases q with rfl | rfl | rfl <;> decide +kernel)), if_neg t4, ht]
    refine ⟨_, (Takes.pair e1).app ((Takes.pair (tw_rel rfl h)).app (.pair (tw_term rfl hu))), ?_⟩
    exact paseFin (R := R) (p := .atom [.inr w, .inr t, .inr u]) (R0 := { R with begun := [.inr w, .inr t], aw := "term", ns := (putN R.ns [.inr w, .inr t, .inr u]).1 }) ok.lv rfl rfl rfl rfl
  | nt h => exact absurd h (Nat.not_lt_zero _)
  | jn h h1 h2 => exact absurd h1 (Nat.not_lt_zero _)
theorem notsS_zero {ns : List (List Key)} {i : Nat} : notsS 0 ns i = (ns, i) := rfl
theorem pase : ∀ (p : PT) (R : Rd) (L : Lv) (Ls : List Lv), zOk R.letters → okP R.letters p → PaseOk R L Ls p → ∃ R', Takes R (toks p) R' ∧ PaseTo R L Ls p R'
  | .atom ks, R, L, Ls, hz, hv, ok => pase_atom hz hv ok
  | .br p, R, L, Ls, hz, hv, ok => by
    have ho := ok.op
    simp only [depP] at ho
    have e1 : takeWord R "(" = ({ R with opened := R.opened + 1, lvs := ⟨[], [], 0⟩ :: R.lvs }, true) := by
      rw [tw_op ok.aw]; unfold takeOperand; rw [if_pos (.inl rfl), if_neg (by omega), if_pos rfl]
    obtain ⟨R1, T1, P1⟩ := pase p { R with opened := R.opened + 1, lvs := ⟨[], [], 0⟩ :: R.lvs } ⟨[], [], 0⟩ R.lvs hz hv ⟨ok.aw, rfl, fun _ => rfl, fun _ h => (by cases h), fun _ h => (by cases h), by show R.opened + 1 + depP p ≤ 30; omega⟩
    obtain ⟨L1, js, h1, h2, h3, h4, h5⟩ := P1.ex
    have h50 := h5 0 (Nat.zero_le _)
    simp only [notsS_zero] at h50
    rw [reduceS_nil] at h50
    have hop := P1.op
    simp only at hop
    have e2 : takeWord R1 ")" = (finishR { reduceR R1 0 with lvs := R.lvs, opened := R1.opened - 1 } (post (erase p) R.ns).2, true) := by
      rw [tw_join P1.aw]
      unfold takeJoin
      rw [h1]
      simp only [if_true]
      rw [ok.lv]
      simp only [reduceR, h1, h50]
      rfl
    refine ⟨_, (Takes.cons (w := "(") (by rw [e1]) (by rw [e1]; exact T1.app (.pair e2))), ?_⟩
    refine paseFin (R := R) (p := .br p) (R0 := { reduceR R1 0 with lvs := R.lvs, opened := R1.opened - 1 }) ok.lv ?_ ?_ ?_ rfl
    · simp only [reduceR, h1, h50]; rfl
    · simp only [reduceR, h1]; exact P1.let'
    · show R1.opened - 1 = R.opened
      omega
  | .nt p, R, L, Ls, hz, hv, ok => by
    have ho := ok.op
    simp only [depP] at ho
    obtain ⟨hv1, hv2⟩ := hv
    have e1 : takeWord R "not" = ({ R with opened := R.opened + 1, lvs := { L with nots := L.nots + 1 } :: Ls }, true) := by
      rw [tw_op ok.aw]; unfold takeOperand; rw [if_pos (.inr rfl), if_neg (by omega), if_neg (by decide +kernel), ok.lv]
    obtain ⟨R1, T1, P1⟩ := pase p { R with opened := R.opened + 1, lvs := { L with nots := L.nots + 1 } :: Ls } { L with nots := L.nots + 1 } Ls hz hv2 ⟨ok.aw, rfl, fun h => absurd h (by omega), ok.js, fun j hj => by
      have := (joinL_bind (ok.js j (List.mem_of_mem_head? hj))).2.1
      show bindJ j < bindP p
      omega, by show R.opened + 1 + depP p ≤ 30; omega⟩
    refine ⟨R1, .cons (by rw [e1]) (by rw [e1]; exact T1), ⟨P1.aw, P1.let', ?_, ?_⟩⟩
    · obtain ⟨L1, js, h1, h2, h3, h4, h5⟩ := P1.ex
      refine ⟨L1, js, h1, h2, h3, fun j hj => ?_, fun b hb => h5 b (Nat.le_trans hb hv1)⟩
      have := h4 j hj
      exact ⟨this.1, Nat.le_trans hv1 this.2⟩
    · have := P1.op
      simp only at this
      rw [this]; omega
  | .jn w l r, R, L, Ls, hz, hv, ok => by
    have ho := ok.op
    simp only [depP] at ho
    obtain ⟨hw, hl, hr, vl, vr⟩ := hv
    obtain ⟨w1, w2, w3, w4, w5, w6⟩ := joinL_bind hw
    have hd := ok.hd
    simp only [bindP] at hd
    have n0 : L.nots = 0 := ok.nots (by show bindJ w < 4; omega)
    have hlb : bindJ w ≤ bindP l := by unfold leastL at hl; split at hl <;> omega
    obtain ⟨R1, T1, P1⟩ := pase l R L Ls hz vl ⟨ok.aw, ok.lv, fun _ => n0, ok.js, fun j hj => Nat.lt_of_lt_of_le (hd j hj) hlb, by omega⟩
    obtain ⟨L1, js, h1, h2, h3, h4, h5⟩ := P1.ex
    have h5w := h5 (bindJ w) hlb
    rw [n0, notsS_zero, reduceS_stop hd] at h5w
    simp only at h5w
    have nadd : ¬ (w = "not" ∨ (w = "adds" ∧ ("adds" : Str) ∈ L1.joins)) := by
      rintro (q | ⟨q1, q2⟩)
      · exact w3 q
      · have b0 := w5 q1
        rw [h3] at q2
        have e0 : L.joins = [] := by
          cases q : L.joins with
          | nil => rfl
          | cons j _ => have := hd j (by rw [q]; simp); omega
        rw [e0, List.append_nil] at q2
        obtain ⟨j1, j2⟩ := h4 _ q2
        rw [q1] at b0
        unfold leastL at hl
        rw [q1, if_pos b0] at hl
        omega
    have hop1 : R1.opened = R.opened := by rw [P1.op, n0, Nat.sub_zero]
    have e2 : takeWord R1 w = ({ reduceR R1 (bindJ w) with lvs := ⟨(post (erase l) R.ns).2 :: L.ops, w :: L.joins, L1.nots⟩ :: Ls, aw := "operand" }, true) := by
      rw [tw_join P1.aw]
      unfold takeJoin
      rw [h1]
      simp only
      rw [if_neg w4, w1]
      simp only
      rw [if_neg nadd]
      simp only [reduceR, h1, h5w]
    obtain ⟨R3, T3, P3⟩ := pase r { reduceR R1 (bindJ w) with lvs := ⟨(post (erase l) R.ns).2 :: L.ops, w :: L.joins, L1.nots⟩ :: Ls, aw := "operand" } ⟨(post (erase l) R.ns).2 :: L.ops, w :: L.joins, L1.nots⟩ Ls
      (by simp only [reduceR, h1]; rw [P1.let']; exact hz) (by simp only [reduceR, h1]; rw [P1.let']; exact vr) ⟨rfl, rfl, fun _ => h2, fun j hj => by
        rcases List.mem_cons.mp hj with rfl | hj
        · exact hw
        · exact ok.js j hj, fun j hj => by
        have e : w = j := by simpa using hj
        rw [← e]; omega, by simp only [reduceR, h1]; rw [hop1]; omega⟩
    refine ⟨R3, T1.app (.cons (by rw [e2]) (by rw [e2]; exact T3)), ⟨P3.aw, ?_, ?_, ?_⟩⟩
    · rw [P3.let']; simp only [reduceR, h1]; exact P1.let'
    · obtain ⟨L3, js3, g1, g2, g3, g4, g5⟩ := P3.ex
      refine ⟨L3, js3 ++ [w], g1, g2, by rw [g3]; simp, fun j hj => ?_, fun b hb => ?_⟩
      · show j ∈ joinL ∧ bindJ w ≤ bindJ j
        rcases List.mem_append.mp hj with hj | hj
        · exact ⟨(g4 j hj).1, by have := (g4 j hj).2; omega⟩
        · have := List.mem_singleton.mp hj; subst this; exact ⟨hw, Nat.le_refl _⟩
      · have hb' : b ≤ bindJ w := hb
        have := g5 b (by omega)
        rw [this]
        have er : (reduceR R1 (bindJ w)).ns = (post (erase l) R.ns).1 := by simp only [reduceR, h1, h5w]
        simp only [h2, notsS_zero, er]
        rw [n0]
        simp only [erase, post, notsS_zero]
        rw [reduceS, if_pos (by unfold bindJ at hb'; exact hb')]
    · have := P3.op
      simp only [reduceR, h1] at this
      rw [this, h2, hop1, n0]
/-- a text that has the brackets it needs is read to its listing -/
theorem read_toks {z : Str} (hz : zOk z) {p : PT} (hp : okP z p) (hd : depP p ≤ 30) (ht : ∀ x ∈ toks p, tokC x) {f : Nat} (hf : (toks p).length < f) : readGo (lay "" (toks p)) f 0 "" (newRd z) = .ok (post (erase p) []).1 := by
  obtain ⟨R', T, P⟩ := pase p (newRd z) ⟨[], [], 0⟩ [] hz hp ⟨rfl, rfl, fun _ => rfl, fun _ h => (by cases h), fun _ h => (by cases h), by show 0 + depP p ≤ 30; omega⟩
  obtain ⟨L, js, h1, h2, h3, h4, h5⟩ := P.ex
  have hm : mayEnd R' = true := by unfold mayEnd; rw [P.aw, h1]; simp
  have := readGo_toks (toks p) f [] "" (newRd z) R' hf (.inl rfl) ht T hm
  rw [List.nil_append] at this
  rw [List.length_nil] at this
  rw [this]
  have h50 := h5 0 (Nat.zero_le _)
  simp only [notsS_zero] at h50
  rw [reduceS_nil] at h50
  simp only [reduceR, h1, h50]
  rfl
theorem wordsA_tok {z : Str} (hz : zOk z) {ks : List Key} (h : NodeV z 0 ks) : ∀ x ∈ wordsA ks, wordC x := by
  have c1 : ∀ w ∈ aloneL, codes w ≠ [] ∧ ∀ c ∈ codes w, isLow c = true := by decide +kernel
  have c2 : ∀ w ∈ relL, codes w ≠ [] ∧ ∀ c ∈ codes w, isLow c = true := by decide +kernel
  have c3 : codes "holds" ≠ [] ∧ ∀ c ∈ codes "holds", isLow c = true := by decide +kernel
  cases h with
  | al h => intro x hx; have := List.mem_singleton.mp hx; subst this; exact c1 _ h
  | ho h =>
    intro x hx
    rcases List.mem_cons.mp hx with rfl | hx
    · exact c3
    · have := List.mem_singleton.mp hx; subst this; exact (term_not hz h).2.2.2.2.1
  | re h ht hu =>
    intro x hx
    rcases List.mem_cons.mp hx with rfl | hx
    · exact (term_not hz ht).2.2.2.2.1
    · rcases List.mem_cons.mp hx with rfl | hx
      · exact c2 _ h
      · have := List.mem_singleton.mp hx; subst this; exact (term_not hz hu).2.2.2.2.1
  | nt h => exact absurd h (Nat.not_lt_zero _)
  | jn h h1 h2 => exact absurd h1 (Nat.not_lt_zero _)
theorem toks_tok {z : Str} (hz : zOk z) : ∀ {p : PT}, okP z p → ∀ x ∈ toks p, tokC x
  | .atom ks, h => fun x hx => .inr (.inr (wordsA_tok hz h x hx))
  | .br p, h => fun x hx => by
    rcases List.mem_cons.mp hx with rfl | hx
    · exact .inl rfl
    · rcases List.mem_append.mp hx with hx | hx
      · exact toks_tok (p := p) hz h x hx
      · have := List.mem_singleton.mp hx; subst this; exact .inr (.inl rfl)
  | .nt p, h => fun x hx => by
    rcases List.mem_cons.mp hx with rfl | hx
    · have hn : codes "not" ≠ [] ∧ ∀ c ∈ codes "not", isLow c = true := by decide +kernel
      exact .inr (.inr hn)
    · exact toks_tok hz h.2 x hx
  | .jn w l r, h => fun x hx => by
    have c : ∀ w ∈ joinL, codes w ≠ [] ∧ ∀ c ∈ codes w, isLow c = true := by decide +kernel
    rcases List.mem_append.mp hx with hx | hx
    · exact toks_tok hz h.2.2.2.1 x hx
    · rcases List.mem_cons.mp hx with rfl | hx
      · exact .inr (.inr (c _ h.1))
      · exact toks_tok hz h.2.2.2.2 x hx
end L2.EV
set_option maxHeartbeats 1000000
/-! K01S4: promises of the law's own defs. -/
namespace L2.EV
open PySem PySem.Spec PyProof.Rows
/-- a source of draws -/
def srcM (d s c : Int) : MO := .lst [.int d, .int s, .int c]
def SrcAt (m : Mem) (a : Addr) : Prop := ∃ d s c, m a = some (srcM d s c)
def ScrOk (m : Mem) (d : D) : Prop := ∃ zs : List Int, lisOf m d = some (zs.map D.int) ∧ zs.length ≤ 63 ∧ ∀ z ∈ zs, z.natAbs < 2 ^ 1048577
def g__law_source : SPEC := fun ds m Q _ => ∃ d i, ds = [d, dI i] ∧ ScrOk m d ∧ i ≤ 63 ∧ ∀ p a b c, m p = none → Q (.ref p) (mup m p (srcM a b c))
def g__law_pick : SPEC := fun ds m Q _ => ∃ a n, ds = [.ref a, dI n] ∧ SrcAt m a ∧ 0 < n ∧ n < 1000 ∧ ∀ (v : Nat) d s c, v < n → Q (dI v) (mup m a (srcM d s c))
def zNm (z : Str) : Prop := namesOk (.str z) = true
def g__law_exact : SPEC := fun ds m Q _ => ∃ a z, ds = [.ref a, .str z] ∧ SrcAt m a ∧ zNm z ∧ ∀ ks d s c, leafV z ks → Q (dN ks) (mup m a (srcM d s c))
def g__law_loose : SPEC := g__law_exact
def shN (z : Str) (n : Nat) (sh : List (List Key)) : Prop := SheetV z sh ∧ 1 ≤ sh.length ∧ sh.length ≤ n
def lstN (ns : List (List Key)) : MO := .lst (ns.map dN)
def g__law_shape : SPEC := fun ds m Q _ => ∃ a z, ds = [.ref a, .str z] ∧ SrcAt m a ∧ zNm z ∧ ∀ p sh d s c, m p = none → shN z 5 sh → Q (.ref p) (mup (mup m a (srcM d s c)) p (lstN sh))
def g__law_sheet : SPEC := fun ds m Q _ => ∃ a z n, ds = [.ref a, .str z, dI n] ∧ SrcAt m a ∧ zNm z ∧ 1 ≤ n ∧ n ≤ 100 ∧ ∀ p sh d s c, m p = none → shN z n sh → Q (.ref p) (mup (mup m a (srcM d s c)) p (lstN sh))
def bnd (w : Str) : Nat := (bindOf w).getD 5
def g__law_bound : SPEC := fun ds m Q _ => ∃ w r, ds = [dN (.inr w :: r)] ∧ PyData.strOk w = true ∧ Q (dI (bnd w)) m
def trSz : Tr → Nat
  | .atom _ => 1
  | .nt t => 1 + trSz t
  | .jn _ l r => 1 + (trSz l + trSz r)
def g__law_width : SPEC := fun ds m Q _ => ∃ p z sh, ds = [.ref p] ∧ m p = some (lstN sh) ∧ shN z 100 sh ∧ Q (dI (trSz (trOf sh (sh.length - 1)))) m
def g__law_short : SPEC := fun ds m Q _ => ∃ a z n, ds = [.ref a, .str z, dI n] ∧ SrcAt m a ∧ zNm z ∧ 1 ≤ n ∧ n ≤ 7 ∧ ∀ p sh d s c, m p = none → shN z 7 sh → trSz (trOf sh (sh.length - 1)) < 40 → Q (.ref p) (mup (mup m a (srcM d s c)) p (lstN sh))
def KOk (ks : List Key) : Prop := ∀ k ∈ ks, ∀ s, k = .inr s → PyData.strOk s = true
def NsOk (ns : List (List Key)) : Prop := ∀ ks ∈ ns, KOk ks
def g__law_listed : SPEC := fun ds m Q _ => ∃ q ns ks, ds = [.ref q, dN ks] ∧ m q = some (lstN ns) ∧ KOk ks ∧ NsOk ns ∧ ns.length < 1000000 ∧ Q (dI (putN ns ks).2) (mup m q (lstN (putN ns ks).1))
def g_tidyN (k : Nat) : SPEC := fun ds m Q _ => ∃ p n q z sh ns, ds = [.ref p, dI n, .ref q] ∧ p ≠ q ∧ m p = some (lstN sh) ∧ m q = some (lstN ns) ∧ SheetV z sh ∧ zOk z ∧ n < sh.length ∧ n < k ∧ NsOk ns ∧ ns.length + trSz (trOf sh n) < 1000 ∧ Q (dI (post (trOf sh n) ns).2) (mup m q (lstN (post (trOf sh n) ns).1))
def g__law_tidy : SPEC := g_tidyN 100
/-- the text of a tree with brackets -/
def atomT : List Key → List Nat
  | [.inr w] => codes w
  | [.inr w, .inr t] => codes w ++ 32 :: codes t
  | [.inr w, .inr t, .inr u] => codes t ++ 32 :: (codes w ++ 32 :: codes u)
  | _ => []
def txt : PT → List Nat
  | .atom ks => atomT ks
  | .br p => 40 :: (txt p ++ [41])
  | .nt p => codes "not" ++ 32 :: txt p
  | .jn w l r => txt l ++ 32 :: (codes w ++ 32 :: txt r)
def trH : Tr → Nat
  | .atom _ => 0
  | .nt t => 1 + trH t
  | .jn _ l r => 1 + max (trH l) (trH r)
def SrcOr (m : Mem) (sd : D) : Prop := sd = .non ∨ ∃ a, sd = .ref a ∧ SrcAt m a
def SrcTo (m : Mem) (sd : D) (m' : Mem) : Prop := (sd = .non ∧ m' = m) ∨ ∃ a d s c, sd = .ref a ∧ m' = mup m a (srcM d s c)
def bindT : Tr → Nat
  | .atom _ => 5
  | .nt _ => 4
  | .jn w _ _ => bindJ w
structure WrOk (z : Str) (t : Tr) (pt : PT) : Prop where
  er : erase pt = t
  ok : okP z pt
  bd : bindP pt = bindT t
  dp : depP pt ≤ 2 * trH t
  len : (txt pt).length ≤ 40 * trSz t
def g_writtenN (k : Nat) : SPEC := fun ds m Q _ => ∃ p n sd z sh, ds = [.ref p, dI n, sd] ∧ (∀ a, sd = .ref a → a ≠ p) ∧ m p = some (lstN sh) ∧ SrcOr m sd ∧ SheetV z sh ∧ zOk z ∧ n < sh.length ∧ n < k ∧ trSz (trOf sh n) ≤ 100 ∧ ∀ pt t m', WrOk z (trOf sh n) pt → codes t = txt pt → SrcTo m sd m' → Q (.str t) m'
def g__law_written : SPEC := g_writtenN 100
def g__law_refused : SPEC := fun ds m Q _ => ∃ z, ds = [.str z] ∧ zNm z ∧ Q (.bl true) m
def g_law : SPEC := fun ds m Q _ => ∃ d, ds = [d] ∧ ScrOk m d ∧ Q (.bl true) m
end L2.EV
set_option maxHeartbeats 1000000
namespace L2.EV
open PySem PySem.Spec PyProof.Rows
/-! _law_source -/
abbrev N__law_source : List Str := ["script", "place", "cell", "seed", "one", "number"]
abbrev P__law_source : List Str := ["script", "place"]
theorem S__law_source : FnScope N__law_source P__law_source (defScope (top 42)) := ⟨rfl, rfl, rfl, by decide +kernel, rfl, by decide +kernel, by decide +kernel⟩
def r__law_source : ES :=
  (sSeq (sAsg (gN 2) (eIf (tOf (eBin dLt (eVar 1) (eB bLen (aCons (eVar 0) aNil)))) (eBin (dIx TT) (eVar 0) (eVar 1)) (eBin dAdd (eBin dMul (eK (.int 5)) (eVar 1)) (eK (.int 3)))))
  (sSeq (sAsg (gN 3) (eBin dAdd (eBin dMul (eK (.int 1009)) (eVar 1)) (eK (.int 17))))
  (sSeq (sForS (iSeq (eCut (eVar 0) oNone (oSome (eK (.int 3))))) (gN 4)
   (sAsg (gN 3) (eBin dMod (eB bInt (aCons (eBin dAdd (eBin dMul (eVar 3) (eK (.int 31))) (eBin dMod (eB bInt (aCons (eVar 4) aNil)) (eK (.int 2147483629)))) aNil)) (eK (.int 2147483629)))))
  (sSeq (sAsg (gN 3) (eBin dMod (eB bInt (aCons (eBin dAdd (eBin dMul (eVar 3) (eK (.int 31))) (eBin dMod (eB bInt (aCons (eVar 2) aNil)) (eK (.int 2147483587)))) aNil)) (eK (.int 2147483629))))
  (sSeq (sAsg (gN 5) (eB bAbs (aCons (eVar 2) aNil)))
  (sSeq (sIf (tOf (eBin dLt (eVar 5) (eBin dPow (eK (.int 10)) (eK (.int 18)))))
   (sRet (eLst (aCons (eK (.int 0)) (aCons (eVar 3) (aCons (eK (.int 0)) aNil)))))
   sNil)
  (sSeq (sIf (tOf (eBin dGt (eBin dShr (eVar 5) (eK (.int 3000))) (eK (.int 0))))
   (sAsg (gN 5) (eBin dSub (eVar 5) (eBin dShl (eBin dShr (eVar 5) (eK (.int 3000))) (eK (.int 3000)))))
   sNil)
  (sRet (eLst (aCons (eVar 5) (aCons (eVar 3) (aCons (eK (.int 0)) aNil))))))))))))
theorem w__law_source {P : Program} {w : World} {K : PySem.W.Frag} {mg : Str → Option Value} {base : Heap} {k : Nat} {f : Addr} {cdv : Value} {A : Around} {outer : List Env} {s : Shared} {H : Hp} {E : XK} (M : Md P K w mg) 
    (hr : Room (k + 1) (A.deeper (envOfC "_law_source" (defScope (top 42)) s.heap.objs.size f cdv))) :
    PSs (cxOf (L2.CX P w) P w K mg base N__law_source "_law_source" (defScope (top 42)) f cdv A outer s H E) (defBody (top 42)) (RS K (wE E) r__law_source) := by
  have S := S__law_source
  have hT : TabOk (cxOf (L2.CX P w) P w K mg base N__law_source "_law_source" (defScope (top 42)) f cdv A outer s H E) TT := M.tab _ rfl rfl
  exact (sv_seq (sv_set 2 S.nd (ev_if (ev_tcmp o_lt (ev_var 1) (b_len M.n_len (av_cons (ev_var 0) av_nil))) (ev_ix hT (roomU hr) (ev_var 0) (ev_var 1)) (ev_bin o_add (ev_bin o_mul ev_int (ev_var 1)) ev_int)))
  (sv_seq (sv_set 3 S.nd (ev_bin o_add (ev_bin o_mul ev_int (ev_var 1)) ev_int))
  (sv_seq (sv_forS (passes_of rfl) rfl (pi_seq (ev_cut (ev_var 0) ov_none (ov_some ev_int))) (gv_name 4 S.nd)
   (sv_one (sv_set 3 S.nd (ev_bin o_mod (b_int M.n_int (av_cons (ev_bin o_add (ev_bin o_mul (ev_var 3) ev_int) (ev_bin o_mod (b_int M.n_int (av_cons (ev_var 4) av_nil)) ev_int)) av_nil)) ev_int))))
  (sv_seq (sv_set 3 S.nd (ev_bin o_mod (b_int M.n_int (av_cons (ev_bin o_add (ev_bin o_mul (ev_var 3) ev_int) (ev_bin o_mod (b_int M.n_int (av_cons (ev_var 2) av_nil)) ev_int)) av_nil)) ev_int))
  (sv_seq (sv_set 5 S.nd (b_abs M.n_abs (av_cons (ev_var 2) av_nil)))
  (sv_seq (sv_if (ev_tcmp o_lt (ev_var 5) (ev_bin o_pow ev_int ev_int))
   (sv_one (sv_ret (ev_lst (av_cons ev_int (av_cons (ev_var 3) (av_cons ev_int av_nil))))))
   sv_nil)
  (sv_seq (sv_if (ev_tcmp o_gt (ev_bin o_shr (ev_var 5) ev_int) ev_int)
   (sv_one (sv_set 5 S.nd (ev_bin o_sub (ev_var 5) (ev_bin o_shl (ev_bin o_shr (ev_var 5) ev_int) ev_int))))
   sv_nil)
  (sv_one (sv_ret (ev_lst (av_cons (ev_var 5) (av_cons (ev_var 3) (av_cons ev_int av_nil)))))))))))))
/-! _law_pick -/
abbrev N__law_pick : List Str := ["source", "many", "mixed", "digit"]
abbrev P__law_pick : List Str := ["source", "many"]
theorem S__law_pick : FnScope N__law_pick P__law_pick (defScope (top 43)) := ⟨rfl, rfl, rfl, by decide +kernel, rfl, by decide +kernel, by decide +kernel⟩
def r__law_pick : ES :=
  (sSeq (sIf (tOf (eBin dGt (eBin (dIx TT) (eVar 0) (eK (.int 0))) (eK (.int 0))))
   (sSeq (sAsg (gN 3) (eBin dMod (eB bInt (aCons (eBin (dIx TT) (eVar 0) (eK (.int 0))) aNil)) (eVar 1)))
   (sSeq (sSetIx (eVar 0) (eK (.int 0)) (eBin dFdiv (eBin (dIx TT) (eVar 0) (eK (.int 0))) (eVar 1)))
   (sRet (eVar 3))))
   sNil)
  (sSeq (sSetIx (eVar 0) (eK (.int 2)) (eBin dAdd (eBin (dIx TT) (eVar 0) (eK (.int 2))) (eK (.int 1))))
  (sSeq (sAsg (gN 2) (eBin dMod (eB bInt (aCons (eBin dMul (eBin dAdd (eBin (dIx TT) (eVar 0) (eK (.int 1))) (eBin dMul (eK (.int 7919)) (eBin (dIx TT) (eVar 0) (eK (.int 2))))) (eK (.int 48271))) aNil)) (eK (.int 2147483647))))
  (sSeq (sAsg (gN 2) (eBin dMod (eB bInt (aCons (eBin dAdd (eBin dAdd (eBin dMul (eVar 2) (eVar 2)) (eBin dMul (eK (.int 69621)) (eBin (dIx TT) (eVar 0) (eK (.int 2))))) (eBin (dIx TT) (eVar 0) (eK (.int 1)))) aNil)) (eK (.int 2147483629))))
  (sSeq (sAsg (gN 2) (eBin dMod (eB bInt (aCons (eBin dAdd (eBin dMul (eVar 2) (eK (.int 16807))) (eK (.int 11))) aNil)) (eK (.int 2147483647))))
  (sSeq (sAsg (gN 2) (eBin dMod (eB bInt (aCons (eBin dAdd (eBin dMul (eVar 2) (eVar 2)) (eVar 2)) aNil)) (eK (.int 2147483587))))
  (sRet (eBin dMod (eB bInt (aCons (eBin dFdiv (eVar 2) (eK (.int 3))) aNil)) (eVar 1)))))))))
theorem w__law_pick {P : Program} {w : World} {K : PySem.W.Frag} {mg : Str → Option Value} {base : Heap} {k : Nat} {f : Addr} {cdv : Value} {A : Around} {outer : List Env} {s : Shared} {H : Hp} {E : XK} (M : Md P K w mg) 
    (hr : Room (k + 1) (A.deeper (envOfC "_law_pick" (defScope (top 43)) s.heap.objs.size f cdv))) :
    PSs (cxOf (L2.CX P w) P w K mg base N__law_pick "_law_pick" (defScope (top 43)) f cdv A outer s H E) (defBody (top 43)) (RS K (wE E) r__law_pick) := by
  have S := S__law_pick
  have hT : TabOk (cxOf (L2.CX P w) P w K mg base N__law_pick "_law_pick" (defScope (top 43)) f cdv A outer s H E) TT := M.tab _ rfl rfl
  exact (sv_seq (sv_if (ev_tcmp o_gt (ev_ix hT (roomU hr) (ev_var 0) ev_int) ev_int)
   (sv_seq (sv_set 3 S.nd (ev_bin o_mod (b_int M.n_int (av_cons (ev_ix hT (roomU hr) (ev_var 0) ev_int) av_nil)) (ev_var 1)))
   (sv_seq (sv_setix (roomU hr) (ev_var 0) ev_int (ev_bin o_fdiv (ev_ix hT (roomU hr) (ev_var 0) ev_int) (ev_var 1)))
   (sv_one (sv_ret (ev_var 3)))))
   sv_nil)
  (sv_seq (sv_setix (roomU hr) (ev_var 0) ev_int (ev_bin o_add (ev_ix hT (roomU hr) (ev_var 0) ev_int) ev_int))
  (sv_seq (sv_set 2 S.nd (ev_bin o_mod (b_int M.n_int (av_cons (ev_bin o_mul (ev_bin o_add (ev_ix hT (roomU hr) (ev_var 0) ev_int) (ev_bin o_mul ev_int (ev_ix hT (roomU hr) (ev_var 0) ev_int))) ev_int) av_nil)) ev_int))
  (sv_seq (sv_set 2 S.nd (ev_bin o_mod (b_int M.n_int (av_cons (ev_bin o_add (ev_bin o_add (ev_bin o_mul (ev_var 2) (ev_var 2)) (ev_bin o_mul ev_int (ev_ix hT (roomU hr) (ev_var 0) ev_int))) (ev_ix hT (roomU hr) (ev_var 0) ev_int)) av_nil)) ev_int))
  (sv_seq (sv_set 2 S.nd (ev_bin o_mod (b_int M.n_int (av_cons (ev_bin o_add (ev_bin o_mul (ev_var 2) ev_int) ev_int) av_nil)) ev_int))
  (sv_seq (sv_set 2 S.nd (ev_bin o_mod (b_int M.n_int (av_cons (ev_bin o_add (ev_bin o_mul (ev_var 2) (ev_var 2)) (ev_var 2)) av_nil)) ev_int))
  (sv_one (sv_ret (ev_bin o_mod (b_int M.n_int (av_cons (ev_bin o_fdiv (ev_var 2) ev_int) av_nil)) (ev_var 1))))))))))
/-! _law_exact -/
abbrev N__law_exact : List Str := ["source", "letters", "first", "menu", "second", "word"]
abbrev P__law_exact : List Str := ["source", "letters"]
theorem S__law_exact : FnScope N__law_exact P__law_exact (defScope (top 44)) := ⟨rfl, rfl, rfl, by decide +kernel, rfl, by decide +kernel, by decide +kernel⟩
def r__law_exact : ES :=
  (sSeq (sAsg (gN 2) (eBin (dIx TT) (eVar 1) (eCall g__law_pick [] (aCons (eVar 0) (aCons (eB bLen (aCons (eVar 1) aNil)) aNil)))))
  (sSeq (sAsg (gN 3) (eBin dAdd (eB bList (aCons (eVar 1) aNil)) (eLst (aCons (eK (.str "nil")) aNil))))
  (sSeq (sAsg (gN 4) (eBin (dIx TT) (eVar 3) (eCall g__law_pick [] (aCons (eVar 0) (aCons (eB bLen (aCons (eVar 3) aNil)) aNil)))))
  (sSeq (sAsg (gN 5) (eBin (dIx TT) (eLst (aCons (eK (.str "one")) (aCons (eK (.str "row")) (aCons (eK (.str "one")) (aCons (eK (.str "row")) (aCons (eK (.str "bare")) (aCons (eK (.str "one")) (aCons (eK (.str "row")) aNil)))))))) (eCall g__law_pick [] (aCons (eVar 0) (aCons (eK (.int 7)) aNil)))))
  (sRet (eIf (tOf (eBin dEq (eVar 5) (eK (.str "bare")))) (eTup (aCons (eK (.str "bare")) aNil)) (eTup (aCons (eVar 5) (aCons (eVar 2) (aCons (eVar 4) aNil))))))))))
theorem w__law_exact {P : Program} {w : World} {K : PySem.W.Frag} {mg : Str → Option Value} {base : Heap} {k : Nat} {f : Addr} {cdv : Value} {A : Around} {outer : List Env} {s : Shared} {H : Hp} {E : XK} (M : Md P K w mg) (F__law_pick : FnG P w K mg base (k + 1) 2 g__law_pick [] "_law_pick")
    (hr : Room (k + 1) (A.deeper (envOfC "_law_exact" (defScope (top 44)) s.heap.objs.size f cdv))) :
    PSs (cxOf (L2.CX P w) P w K mg base N__law_exact "_law_exact" (defScope (top 44)) f cdv A outer s H E) (defBody (top 44)) (RS K (wE E) r__law_exact) := by
  have S := S__law_exact
  have hT : TabOk (cxOf (L2.CX P w) P w K mg base N__law_exact "_law_exact" (defScope (top 44)) f cdv A outer s H E) TT := M.tab _ rfl rfl
  exact (sv_seq (sv_set 2 S.nd (ev_ix hT (roomU hr) (ev_var 1) (ev_call F__law_pick hr (takes_of rfl rfl rfl rfl) (av_cons (ev_var 0) (av_cons (b_len M.n_len (av_cons (ev_var 1) av_nil)) av_nil)))))
  (sv_seq (sv_set 3 S.nd (ev_bin o_add (b_list rfl M.n_list (av_cons (ev_var 1) av_nil)) (ev_lst (av_cons ev_str av_nil))))
  (sv_seq (sv_set 4 S.nd (ev_ix hT (roomU hr) (ev_var 3) (ev_call F__law_pick hr (takes_of rfl rfl rfl rfl) (av_cons (ev_var 0) (av_cons (b_len M.n_len (av_cons (ev_var 3) av_nil)) av_nil)))))
  (sv_seq (sv_set 5 S.nd (ev_ix hT (roomU hr) (ev_lst (av_cons ev_str (av_cons ev_str (av_cons ev_str (av_cons ev_str (av_cons ev_str (av_cons ev_str (av_cons ev_str av_nil)))))))) (ev_call F__law_pick hr (takes_of rfl rfl rfl rfl) (av_cons (ev_var 0) (av_cons ev_int av_nil)))))
  (sv_one (sv_ret (ev_if (ev_tcmp (o_eq (roomU hr)) (ev_var 5) ev_str) (ev_tup (av_cons ev_str av_nil)) (ev_tup (av_cons (ev_var 5) (av_cons (ev_var 2) (av_cons (ev_var 4) av_nil)))))))))))
/-! _law_loose -/
abbrev N__law_loose : List Str := ["source", "letters", "menu", "first", "second", "words", "word"]
abbrev P__law_loose : List Str := ["source", "letters"]
theorem S__law_loose : FnScope N__law_loose P__law_loose (defScope (top 45)) := ⟨rfl, rfl, rfl, by decide +kernel, rfl, by decide +kernel, by decide +kernel⟩
def r__law_loose : ES :=
  (sSeq (sAsg (gN 2) (eBin dAdd (eB bList (aCons (eVar 1) aNil)) (eLst (aCons (eK (.str "nil")) aNil))))
  (sSeq (sAsg (gN 3) (eBin (dIx TT) (eVar 2) (eCall g__law_pick [] (aCons (eVar 0) (aCons (eB bLen (aCons (eVar 2) aNil)) aNil)))))
  (sSeq (sAsg (gN 4) (eBin (dIx TT) (eVar 2) (eCall g__law_pick [] (aCons (eVar 0) (aCons (eB bLen (aCons (eVar 2) aNil)) aNil)))))
  (sSeq (sAsg (gN 5) (eLst (aCons (eK (.str "same")) (aCons (eK (.str "holds")) (aCons (eK (.str "link")) (aCons (eK (.str "way")) (aCons (eK (.str "tied")) (aCons (eK (.str "one")) (aCons (eK (.str "row")) (aCons (eK (.str "bare")) (aCons (eK (.str "yes")) (aCons (eK (.str "no")) (aCons (eK (.str "holds")) (aCons (eK (.str "link")) aNil))))))))))))))
  (sSeq (sAsg (gN 6) (eBin (dIx TT) (eVar 5) (eCall g__law_pick [] (aCons (eVar 0) (aCons (eB bLen (aCons (eVar 5) aNil)) aNil)))))
  (sSeq (sIf (tOf (eBin (dIn TT) (eVar 6) (eTup (aCons (eK (.str "yes")) (aCons (eK (.str "no")) (aCons (eK (.str "bare")) aNil))))))
   (sRet (eTup (aCons (eVar 6) aNil)))
   sNil)
  (sRet (eIf (tOf (eBin dEq (eVar 6) (eK (.str "holds")))) (eTup (aCons (eVar 6) (aCons (eVar 3) aNil))) (eTup (aCons (eVar 6) (aCons (eVar 3) (aCons (eVar 4) aNil))))))))))))
theorem w__law_loose {P : Program} {w : World} {K : PySem.W.Frag} {mg : Str → Option Value} {base : Heap} {k : Nat} {f : Addr} {cdv : Value} {A : Around} {outer : List Env} {s : Shared} {H : Hp} {E : XK} (M : Md P K w mg) (F__law_pick : FnG P w K mg base (k + 1) 2 g__law_pick [] "_law_pick")
    (hr : Room (k + 1) (A.deeper (envOfC "_law_loose" (defScope (top 45)) s.heap.objs.size f cdv))) :
    PSs (cxOf (L2.CX P w) P w K mg base N__law_loose "_law_loose" (defScope (top 45)) f cdv A outer s H E) (defBody (top 45)) (RS K (wE E) r__law_loose) := by
  have S := S__law_loose
  have hT : TabOk (cxOf (L2.CX P w) P w K mg base N__law_loose "_law_loose" (defScope (top 45)) f cdv A outer s H E) TT := M.tab _ rfl rfl
  exact (sv_seq (sv_set 2 S.nd (ev_bin o_add (b_list rfl M.n_list (av_cons (ev_var 1) av_nil)) (ev_lst (av_cons ev_str av_nil))))
  (sv_seq (sv_set 3 S.nd (ev_ix hT (roomU hr) (ev_var 2) (ev_call F__law_pick hr (takes_of rfl rfl rfl rfl) (av_cons (ev_var 0) (av_cons (b_len M.n_len (av_cons (ev_var 2) av_nil)) av_nil)))))
  (sv_seq (sv_set 4 S.nd (ev_ix hT (roomU hr) (ev_var 2) (ev_call F__law_pick hr (takes_of rfl rfl rfl rfl) (av_cons (ev_var 0) (av_cons (b_len M.n_len (av_cons (ev_var 2) av_nil)) av_nil)))))
  (sv_seq (sv_set 5 S.nd (ev_lst (av_cons ev_str (av_cons ev_str (av_cons ev_str (av_cons ev_str (av_cons ev_str (av_cons ev_str (av_cons ev_str (av_cons ev_str (av_cons ev_str (av_cons ev_str (av_cons ev_str (av_cons ev_str av_nil))))))))))))))
  (sv_seq (sv_set 6 S.nd (ev_ix hT (roomU hr) (ev_var 5) (ev_call F__law_pick hr (takes_of rfl rfl rfl rfl) (av_cons (ev_var 0) (av_cons (b_len M.n_len (av_cons (ev_var 5) av_nil)) av_nil)))))
  (sv_seq (sv_if (ev_tcmp (o_in hT (roomU hr)) (ev_var 6) (ev_tup (av_cons ev_str (av_cons ev_str (av_cons ev_str av_nil)))))
   (sv_one (sv_ret (ev_tup (av_cons (ev_var 6) av_nil))))
   sv_nil)
  (sv_one (sv_ret (ev_if (ev_tcmp (o_eq (roomU hr)) (ev_var 6) ev_str) (ev_tup (av_cons (ev_var 6) (av_cons (ev_var 3) av_nil))) (ev_tup (av_cons (ev_var 6) (av_cons (ev_var 3) (av_cons (ev_var 4) av_nil)))))))))))))
/-! _law_shape -/
abbrev N__law_shape : List Str := ["source", "letters", "way", "told", "both"]
abbrev P__law_shape : List Str := ["source", "letters"]
theorem S__law_shape : FnScope N__law_shape P__law_shape (defScope (top 46)) := ⟨rfl, rfl, rfl, by decide +kernel, rfl, by decide +kernel, by decide +kernel⟩
def r__law_shape : ES :=
  (sSeq (sAsg (gN 2) (eCall g__law_pick [] (aCons (eVar 0) (aCons (eK (.int 8)) aNil))))
  (sSeq (sAsg (gN 3) (eLst (aCons (eCall g__law_exact [] (aCons (eVar 0) (aCons (eVar 1) aNil))) aNil)))
  (sSeq (sIf (tOf (eBin (dIn TT) (eVar 2) (eTup (aCons (eK (.int 2)) (aCons (eK (.int 3)) (aCons (eK (.int 4)) (aCons (eK (.int 5)) (aCons (eK (.int 6)) aNil))))))))
   (sSeq (sAsg (gN 4) (eIf (tOr (tOf (eBin dEq (eVar 2) (eK (.int 4)))) (tAnd (tOf (eBin dEq (eB bLen (aCons (eVar 1) aNil)) (eK (.int 1)))) (tOf (eBin dLt (eVar 2) (eK (.int 4)))))) (eK (.str "or")) (eK (.str "apart"))))
   (sAsg (gN 3) (eBin dAdd (eVar 3) (eLst (aCons (eCall g__law_exact [] (aCons (eVar 0) (aCons (eVar 1) aNil))) (aCons (eTup (aCons (eVar 4) (aCons (eK (.int 0)) (aCons (eK (.int 1)) aNil)))) aNil))))))
   sNil)
  (sSeq (sIf (tOf (eBin dEq (eVar 2) (eK (.int 5))))
   (sAsg (gN 3) (eBin dAdd (eVar 3) (eLst (aCons (eCall g__law_exact [] (aCons (eVar 0) (aCons (eVar 1) aNil))) (aCons (eTup (aCons (eK (.str "or")) (aCons (eK (.int 2)) (aCons (eK (.int 3)) aNil)))) aNil)))))
   sNil)
  (sSeq (sIf (tOf (eBin dEq (eVar 2) (eK (.int 6))))
   (sAsg (gN 3) (eBin dAdd (eVar 3) (eLst (aCons (eCall g__law_loose [] (aCons (eVar 0) (aCons (eVar 1) aNil))) (aCons (eTup (aCons (eK (.str "and")) (aCons (eK (.int 2)) (aCons (eK (.int 3)) aNil)))) aNil)))))
   sNil)
  (sRet (eVar 3)))))))
theorem w__law_shape {P : Program} {w : World} {K : PySem.W.Frag} {mg : Str → Option Value} {base : Heap} {k : Nat} {f : Addr} {cdv : Value} {A : Around} {outer : List Env} {s : Shared} {H : Hp} {E : XK} (M : Md P K w mg) (F__law_exact : FnG P w K mg base (k + 1) 2 g__law_exact [] "_law_exact") (F__law_loose : FnG P w K mg base (k + 1) 2 g__law_loose [] "_law_loose") (F__law_pick : FnG P w K mg base (k + 1) 2 g__law_pick [] "_law_pick")
    (hr : Room (k + 1) (A.deeper (envOfC "_law_shape" (defScope (top 46)) s.heap.objs.size f cdv))) :
    PSs (cxOf (L2.CX P w) P w K mg base N__law_shape "_law_shape" (defScope (top 46)) f cdv A outer s H E) (defBody (top 46)) (RS K (wE E) r__law_shape) := by
  have S := S__law_shape
  have hT : TabOk (cxOf (L2.CX P w) P w K mg base N__law_shape "_law_shape" (defScope (top 46)) f cdv A outer s H E) TT := M.tab _ rfl rfl
  exact (sv_seq (sv_set 2 S.nd (ev_call F__law_pick hr (takes_of rfl rfl rfl rfl) (av_cons (ev_var 0) (av_cons ev_int av_nil))))
  (sv_seq (sv_set 3 S.nd (ev_lst (av_cons (ev_call F__law_exact hr (takes_of rfl rfl rfl rfl) (av_cons (ev_var 0) (av_cons (ev_var 1) av_nil))) av_nil)))
  (sv_seq (sv_if (ev_tcmp (o_in hT (roomU hr)) (ev_var 2) (ev_tup (av_cons ev_int (av_cons ev_int (av_cons ev_int (av_cons ev_int (av_cons ev_int av_nil)))))))
   (sv_seq (sv_set 4 S.nd (ev_if (PW.pt (tv_or (ev_tcmp (o_eq (roomU hr)) (ev_var 2) ev_int) (tv_or1 (PW.pt (tv_and (ev_tcmp (o_eq (roomU hr)) (b_len M.n_len (av_cons (ev_var 1) av_nil)) ev_int) (tv_and1 (ev_tcmp o_lt (ev_var 2) ev_int))))))) ev_str ev_str))
   (sv_one (sv_set 3 S.nd (ev_bin o_add (ev_var 3) (ev_lst (av_cons (ev_call F__law_exact hr (takes_of rfl rfl rfl rfl) (av_cons (ev_var 0) (av_cons (ev_var 1) av_nil))) (av_cons (ev_tup (av_cons (ev_var 4) (av_cons ev_int (av_cons ev_int av_nil)))) av_nil)))))))
   sv_nil)
  (sv_seq (sv_if (ev_tcmp (o_eq (roomU hr)) (ev_var 2) ev_int)
   (sv_one (sv_set 3 S.nd (ev_bin o_add (ev_var 3) (ev_lst (av_cons (ev_call F__law_exact hr (takes_of rfl rfl rfl rfl) (av_cons (ev_var 0) (av_cons (ev_var 1) av_nil))) (av_cons (ev_tup (av_cons ev_str (av_cons ev_int (av_cons ev_int av_nil)))) av_nil))))))
   sv_nil)
  (sv_seq (sv_if (ev_tcmp (o_eq (roomU hr)) (ev_var 2) ev_int)
   (sv_one (sv_set 3 S.nd (ev_bin o_add (ev_var 3) (ev_lst (av_cons (ev_call F__law_loose hr (takes_of rfl rfl rfl rfl) (av_cons (ev_var 0) (av_cons (ev_var 1) av_nil))) (av_cons (ev_tup (av_cons ev_str (av_cons ev_int (av_cons ev_int av_nil)))) av_nil))))))
   sv_nil)
  (sv_one (sv_ret (ev_var 3))))))))
/-! _law_sheet -/
abbrev N__law_sheet : List Str := ["source", "letters", "nodes", "menu", "told", "k", "word", "one", "other"]
abbrev P__law_sheet : List Str := ["source", "letters", "nodes"]
theorem S__law_sheet : FnScope N__law_sheet P__law_sheet (defScope (top 47)) := ⟨rfl, rfl, rfl, by decide +kernel, rfl, by decide +kernel, by decide +kernel⟩
def r__law_sheet : ES :=
  (sSeq (sAsg (gN 3) (eLst (aCons (eK (.str "not")) (aCons (eK (.str "and")) (aCons (eK (.str "or")) (aCons (eK (.str "apart")) (aCons (eK (.str "adds")) (aCons (eK (.str "apart")) (aCons (eK (.str "not")) (aCons (eK (.str "and")) aNil))))))))))
  (sSeq (sAsg (gN 4) (eLst aNil))
  (sSeq (sForS (iR1 (aCons (eVar 2) aNil)) (gN 5)
   (sSeq (sIf (tOr (tOf (eBin dEq (eVar 5) (eK (.int 0)))) (tAnd (tOf (eBin dLt (eVar 5) (eBin dSub (eVar 2) (eK (.int 1))))) (tOf (eBin dEq (eCall g__law_pick [] (aCons (eVar 0) (aCons (eK (.int 3)) aNil))) (eK (.int 1))))))
    (sSeq (sExpr (eM isLst mAppend (eVar 4) (aCons (eIf (tOf (eBin dEq (eCall g__law_pick [] (aCons (eVar 0) (aCons (eK (.int 2)) aNil))) (eK (.int 0)))) (eCall g__law_loose [] (aCons (eVar 0) (aCons (eVar 1) aNil))) (eCall g__law_exact [] (aCons (eVar 0) (aCons (eVar 1) aNil)))) aNil)))
    sCont)
    sNil)
   (sSeq (sAsg (gN 6) (eBin (dIx TT) (eVar 3) (eCall g__law_pick [] (aCons (eVar 0) (aCons (eB bLen (aCons (eVar 3) aNil)) aNil)))))
   (sSeq (sAsg (gN 7) (eIf (tOf (eBin dGt (eCall g__law_pick [] (aCons (eVar 0) (aCons (eK (.int 3)) aNil))) (eK (.int 0)))) (eBin dSub (eVar 5) (eK (.int 1))) (eCall g__law_pick [] (aCons (eVar 0) (aCons (eVar 5) aNil)))))
   (sSeq (sAsg (gN 8) (eCall g__law_pick [] (aCons (eVar 0) (aCons (eVar 5) aNil))))
   (sIf (tOf (eBin dEq (eVar 6) (eK (.str "not"))))
    (sExpr (eM isLst mAppend (eVar 4) (aCons (eTup (aCons (eVar 6) (aCons (eVar 7) aNil))) aNil)))
    (sExpr (eM isLst mAppend (eVar 4) (aCons (eIf (tOf (eBin dEq (eCall g__law_pick [] (aCons (eVar 0) (aCons (eK (.int 2)) aNil))) (eK (.int 0)))) (eTup (aCons (eVar 6) (aCons (eVar 7) (aCons (eVar 8) aNil)))) (eTup (aCons (eVar 6) (aCons (eVar 8) (aCons (eVar 7) aNil))))) aNil)))))))))
  (sRet (eVar 4)))))
theorem w__law_sheet {P : Program} {w : World} {K : PySem.W.Frag} {mg : Str → Option Value} {base : Heap} {k : Nat} {f : Addr} {cdv : Value} {A : Around} {outer : List Env} {s : Shared} {H : Hp} {E : XK} (M : Md P K w mg) (F__law_exact : FnG P w K mg base (k + 1) 2 g__law_exact [] "_law_exact") (F__law_loose : FnG P w K mg base (k + 1) 2 g__law_loose [] "_law_loose") (F__law_pick : FnG P w K mg base (k + 1) 2 g__law_pick [] "_law_pick")
    (hr : Room (k + 1) (A.deeper (envOfC "_law_sheet" (defScope (top 47)) s.heap.objs.size f cdv))) :
    PSs (cxOf (L2.CX P w) P w K mg base N__law_sheet "_law_sheet" (defScope (top 47)) f cdv A outer s H E) (defBody (top 47)) (RS K (wE E) r__law_sheet) := by
  have S := S__law_sheet
  have hT : TabOk (cxOf (L2.CX P w) P w K mg base N__law_sheet "_law_sheet" (defScope (top 47)) f cdv A outer s H E) TT := M.tab _ rfl rfl
  exact (sv_seq (sv_set 3 S.nd (ev_lst (av_cons ev_str (av_cons ev_str (av_cons ev_str (av_cons ev_str (av_cons ev_str (av_cons ev_str (av_cons ev_str (av_cons ev_str av_nil))))))))))
  (sv_seq (sv_set 4 S.nd (ev_lst av_nil))
  (sv_seq (sv_forS (passes_of rfl) rfl (iv_r1 M.n_range (av_cons (ev_var 2) av_nil)) (gv_name 5 S.nd)
   (sv_seq (sv_if (PW.pt (tv_or (ev_tcmp (o_eq (roomU hr)) (ev_var 5) ev_int) (tv_or1 (PW.pt (tv_and (ev_tcmp o_lt (ev_var 5) (ev_bin o_sub (ev_var 2) ev_int)) (tv_and1 (ev_tcmp (o_eq (roomU hr)) (ev_call F__law_pick hr (takes_of rfl rfl rfl rfl) (av_cons (ev_var 0) (av_cons ev_int av_nil))) ev_int)))))))
    (sv_seq (sv_expr (b_append (ev_var 4) (av_cons (ev_if (ev_tcmp (o_eq (roomU hr)) (ev_call F__law_pick hr (takes_of rfl rfl rfl rfl) (av_cons (ev_var 0) (av_cons ev_int av_nil))) ev_int) (ev_call F__law_loose hr (takes_of rfl rfl rfl rfl) (av_cons (ev_var 0) (av_cons (ev_var 1) av_nil))) (ev_call F__law_exact hr (takes_of rfl rfl rfl rfl) (av_cons (ev_var 0) (av_cons (ev_var 1) av_nil)))) av_nil)))
    (sv_one (sv_cont)))
    sv_nil)
   (sv_seq (sv_set 6 S.nd (ev_ix hT (roomU hr) (ev_var 3) (ev_call F__law_pick hr (takes_of rfl rfl rfl rfl) (av_cons (ev_var 0) (av_cons (b_len M.n_len (av_cons (ev_var 3) av_nil)) av_nil)))))
   (sv_seq (sv_set 7 S.nd (ev_if (ev_tcmp o_gt (ev_call F__law_pick hr (takes_of rfl rfl rfl rfl) (av_cons (ev_var 0) (av_cons ev_int av_nil))) ev_int) (ev_bin o_sub (ev_var 5) ev_int) (ev_call F__law_pick hr (takes_of rfl rfl rfl rfl) (av_cons (ev_var 0) (av_cons (ev_var 5) av_nil)))))
   (sv_seq (sv_set 8 S.nd (ev_call F__law_pick hr (takes_of rfl rfl rfl rfl) (av_cons (ev_var 0) (av_cons (ev_var 5) av_nil))))
   (sv_one (sv_if (ev_tcmp (o_eq (roomU hr)) (ev_var 6) ev_str)
    (sv_one (sv_expr (b_append (ev_var 4) (av_cons (ev_tup (av_cons (ev_var 6) (av_cons (ev_var 7) av_nil))) av_nil))))
    (sv_one (sv_expr (b_append (ev_var 4) (av_cons (ev_if (ev_tcmp (o_eq (roomU hr)) (ev_call F__law_pick hr (takes_of rfl rfl rfl rfl) (av_cons (ev_var 0) (av_cons ev_int av_nil))) ev_int) (ev_tup (av_cons (ev_var 6) (av_cons (ev_var 7) (av_cons (ev_var 8) av_nil)))) (ev_tup (av_cons (ev_var 6) (av_cons (ev_var 8) (av_cons (ev_var 7) av_nil))))) av_nil)))))))))))
  (sv_one (sv_ret (ev_var 4))))))
/-! _law_bound -/
abbrev N__law_bound : List Str := ["node", "menu"]
abbrev P__law_bound : List Str := ["node"]
theorem S__law_bound : FnScope N__law_bound P__law_bound (defScope (top 48)) := ⟨rfl, rfl, rfl, by decide +kernel, rfl, by decide +kernel, by decide +kernel⟩
def r__law_bound : ES :=
  (sSeq (sAsg (gN 1) (eDisp (pCons (eK (.str "adds")) (eK (.int 0)) (pCons (eK (.str "or")) (eK (.int 1)) (pCons (eK (.str "and")) (eK (.int 2)) (pCons (eK (.str "apart")) (eK (.int 3)) (pCons (eK (.str "not")) (eK (.int 4)) pNil)))))))
  (sRet (eIf (tOf (eBin (dIn TT) (eBin (dIx TT) (eVar 0) (eK (.int 0))) (eVar 1))) (eBin (dIx TT) (eVar 1) (eBin (dIx TT) (eVar 0) (eK (.int 0)))) (eK (.int 5)))))
theorem w__law_bound {P : Program} {w : World} {K : PySem.W.Frag} {mg : Str → Option Value} {base : Heap} {k : Nat} {f : Addr} {cdv : Value} {A : Around} {outer : List Env} {s : Shared} {H : Hp} {E : XK} (M : Md P K w mg) 
    (hr : Room (k + 1) (A.deeper (envOfC "_law_bound" (defScope (top 48)) s.heap.objs.size f cdv))) :
    PSs (cxOf (L2.CX P w) P w K mg base N__law_bound "_law_bound" (defScope (top 48)) f cdv A outer s H E) (defBody (top 48)) (RS K (wE E) r__law_bound) := by
  have S := S__law_bound
  have hT : TabOk (cxOf (L2.CX P w) P w K mg base N__law_bound "_law_bound" (defScope (top 48)) f cdv A outer s H E) TT := M.tab _ rfl rfl
  exact (sv_seq (sv_set 1 S.nd (ev_disp (pd_cons ev_str ev_int (pd_cons ev_str ev_int (pd_cons ev_str ev_int (pd_cons ev_str ev_int (pd_cons ev_str ev_int pd_nil)))))))
  (sv_one (sv_ret (ev_if (ev_tcmp (o_in hT (roomU hr)) (ev_ix hT (roomU hr) (ev_var 0) ev_int) (ev_var 1)) (ev_ix hT (roomU hr) (ev_var 1) (ev_ix hT (roomU hr) (ev_var 0) ev_int)) ev_int))))
/-! _law_written -/
abbrev N__law_written : List Str := ["sheet", "number", "source", "node", "mine", "told", "k", "one", "least"]
abbrev P__law_written : List Str := ["sheet", "number", "source"]
theorem S__law_written : FnScope N__law_written P__law_written (defScope (top 49)) := ⟨rfl, rfl, rfl, by decide +kernel, rfl, by decide +kernel, by decide +kernel⟩
def r__law_written (g__law_written : SPEC) : ES :=
  (sSeq (sAsg (gN 3) (eBin (dIx TT) (eVar 0) (eVar 1)))
  (sSeq (sIf (tOf (eBin (dNotIn TT) (eBin (dIx TT) (eVar 3) (eK (.int 0))) (eTup (aCons (eK (.str "adds")) (aCons (eK (.str "or")) (aCons (eK (.str "and")) (aCons (eK (.str "apart")) (aCons (eK (.str "not")) aNil))))))))
   (sSeq (sIf (tOf (eBin dEq (eB bLen (aCons (eVar 3) aNil)) (eK (.int 1))))
    (sRet (eBin (dIx TT) (eVar 3) (eK (.int 0))))
    sNil)
   (sRet (eIf (tOf (eBin dEq (eBin (dIx TT) (eVar 3) (eK (.int 0))) (eK (.str "holds")))) (eBin dAdd (eK (.str "holds ")) (eBin (dIx TT) (eVar 3) (eK (.int 1)))) (eM isStr mJoin (eK (.str " ")) (aCons (eLst (aCons (eBin (dIx TT) (eVar 3) (eK (.int 1))) (aCons (eBin (dIx TT) (eVar 3) (eK (.int 0))) (aCons (eBin (dIx TT) (eVar 3) (eK (.int 2))) aNil)))) aNil)))))
   sNil)
  (sSeq (sAsg (gN 4) (eCall g__law_bound [] (aCons (eVar 3) aNil)))
  (sSeq (sAsg (gN 5) (eLst aNil))
  (sSeq (sForS (iR2 (aCons (eK (.int 1)) (aCons (eB bLen (aCons (eVar 3) aNil)) aNil))) (gN 6)
   (sSeq (sAsg (gN 7) (eCall g__law_written [] (aCons (eVar 0) (aCons (eBin (dIx TT) (eVar 3) (eVar 6)) (aCons (eVar 2) aNil)))))
   (sSeq (sAsg (gN 8) (eIf (tOf (eBin dEq (eVar 4) (eK (.int 0)))) (eK (.int 1)) (eIf (tOf (eBin dEq (eVar 6) (eK (.int 2)))) (eBin dAdd (eVar 4) (eK (.int 1))) (eVar 4))))
   (sSeq (sIf (tOr (tOf (eBin dLt (eCall g__law_bound [] (aCons (eBin (dIx TT) (eVar 0) (eBin (dIx TT) (eVar 3) (eVar 6))) aNil)) (eVar 8))) (tAnd (tOf (eBin dIsNot (eVar 2) (eK .non))) (tOf (eBin dEq (eCall g__law_pick [] (aCons (eVar 2) (aCons (eK (.int 5)) aNil))) (eK (.int 3))))))
    (sAsg (gN 7) (eBin dAdd (eBin dAdd (eK (.str "(")) (eVar 7)) (eK (.str ")"))))
    sNil)
   (sExpr (eM isLst mAppend (eVar 5) (aCons (eVar 7) aNil)))))))
  (sRet (eIf (tOf (eBin dEq (eVar 4) (eK (.int 4)))) (eBin dAdd (eK (.str "not ")) (eBin (dIx TT) (eVar 5) (eK (.int 0)))) (eM isStr mJoin (eBin dAdd (eBin dAdd (eK (.str " ")) (eBin (dIx TT) (eVar 3) (eK (.int 0)))) (eK (.str " "))) (aCons (eVar 5) aNil)))))))))
theorem w__law_written {P : Program} {w : World} {K : PySem.W.Frag} {mg : Str → Option Value} {base : Heap} {k : Nat} {f : Addr} {cdv : Value} {A : Around} {outer : List Env} {s : Shared} {H : Hp} {E : XK} (M : Md P K w mg) {g__law_written : SPEC} (F__law_bound : FnG P w K mg base (k + 1) 1 g__law_bound [] "_law_bound") (F__law_pick : FnG P w K mg base (k + 1) 2 g__law_pick [] "_law_pick") (F__law_written : FnG P w K mg base (k + 1) 3 g__law_written [] "_law_written")
    (hr : Room (k + 1) (A.deeper (envOfC "_law_written" (defScope (top 49)) s.heap.objs.size f cdv))) :
    PSs (cxOf (L2.CX P w) P w K mg base N__law_written "_law_written" (defScope (top 49)) f cdv A outer s H E) (defBody (top 49)) (RS K (wE E) (r__law_written g__law_written)) := by
  have S := S__law_written
  have hT : TabOk (cxOf (L2.CX P w) P w K mg base N__law_written "_law_written" (defScope (top 49)) f cdv A outer s H E) TT := M.tab _ rfl rfl
  exact (sv_seq (sv_set 3 S.nd (ev_ix hT (roomU hr) (ev_var 0) (ev_var 1)))
  (sv_seq (sv_if (ev_tcmp (o_notin hT (roomU hr)) (ev_ix hT (roomU hr) (ev_var 3) ev_int) (ev_tup (av_cons ev_str (av_cons ev_str (av_cons ev_str (av_cons ev_str (av_cons ev_str av_nil)))))))
   (sv_seq (sv_if (ev_tcmp (o_eq (roomU hr)) (b_len M.n_len (av_cons (ev_var 3) av_nil)) ev_int)
    (sv_one (sv_ret (ev_ix hT (roomU hr) (ev_var 3) ev_int)))
    sv_nil)
   (sv_one (sv_ret (ev_if (ev_tcmp (o_eq (roomU hr)) (ev_ix hT (roomU hr) (ev_var 3) ev_int) ev_str) (ev_bin o_add ev_str (ev_ix hT (roomU hr) (ev_var 3) ev_int)) (b_join ev_str (av_cons (ev_lst (av_cons (ev_ix hT (roomU hr) (ev_var 3) ev_int) (av_cons (ev_ix hT (roomU hr) (ev_var 3) ev_int) (av_cons (ev_ix hT (roomU hr) (ev_var 3) ev_int) av_nil)))) av_nil))))))
   sv_nil)
  (sv_seq (sv_set 4 S.nd (ev_call F__law_bound hr (takes_of rfl rfl rfl rfl) (av_cons (ev_var 3) av_nil)))
  (sv_seq (sv_set 5 S.nd (ev_lst av_nil))
  (sv_seq (sv_forS (passes_of rfl) rfl (iv_r2 M.n_range (av_cons ev_int (av_cons (b_len M.n_len (av_cons (ev_var 3) av_nil)) av_nil))) (gv_name 6 S.nd)
   (sv_seq (sv_set 7 S.nd (ev_call F__law_written hr (takes_of rfl rfl rfl rfl) (av_cons (ev_var 0) (av_cons (ev_ix hT (roomU hr) (ev_var 3) (ev_var 6)) (av_cons (ev_var 2) av_nil)))))
   (sv_seq (sv_set 8 S.nd (ev_if (ev_tcmp (o_eq (roomU hr)) (ev_var 4) ev_int) ev_int (ev_if (ev_tcmp (o_eq (roomU hr)) (ev_var 6) ev_int) (ev_bin o_add (ev_var 4) ev_int) (ev_var 4))))
   (sv_seq (sv_if (PW.pt (tv_or (ev_tcmp o_lt (ev_call F__law_bound hr (takes_of rfl rfl rfl rfl) (av_cons (ev_ix hT (roomU hr) (ev_var 0) (ev_ix hT (roomU hr) (ev_var 3) (ev_var 6))) av_nil)) (ev_var 8)) (tv_or1 (PW.pt (tv_and (ev_tcmp o_isnot (ev_var 2) ev_non) (tv_and1 (ev_tcmp (o_eq (roomU hr)) (ev_call F__law_pick hr (takes_of rfl rfl rfl rfl) (av_cons (ev_var 2) (av_cons ev_int av_nil))) ev_int)))))))
    (sv_one (sv_set 7 S.nd (ev_bin o_add (ev_bin o_add ev_str (ev_var 7)) ev_str)))
    sv_nil)
   (sv_one (sv_expr (b_append (ev_var 5) (av_cons (ev_var 7) av_nil))))))))
  (sv_one (sv_ret (ev_if (ev_tcmp (o_eq (roomU hr)) (ev_var 4) ev_int) (ev_bin o_add ev_str (ev_ix hT (roomU hr) (ev_var 5) ev_int)) (b_join (ev_bin o_add (ev_bin o_add ev_str (ev_ix hT (roomU hr) (ev_var 3) ev_int)) ev_str) (av_cons (ev_var 5) av_nil))))))))))
/-! _law_tidy -/
abbrev N__law_tidy : List Str := ["sheet", "number", "nodes", "node", "one"]
abbrev P__law_tidy : List Str := ["sheet", "number", "nodes"]
theorem S__law_tidy : FnScope N__law_tidy P__law_tidy (defScope (top 50)) := ⟨rfl, rfl, rfl, by decide +kernel, rfl, by decide +kernel, by decide +kernel⟩
def r__law_tidy (g__law_tidy : SPEC) : ES :=
  (sSeq (sAsg (gN 3) (eBin (dIx TT) (eVar 0) (eVar 1)))
  (sSeq (sIf (tOf (eBin (dIn TT) (eBin (dIx TT) (eVar 3) (eK (.int 0))) (eTup (aCons (eK (.str "adds")) (aCons (eK (.str "or")) (aCons (eK (.str "and")) (aCons (eK (.str "apart")) (aCons (eK (.str "not")) aNil))))))))
   (sAsg (gN 3) (eBin dAdd (eTup (aCons (eBin (dIx TT) (eVar 3) (eK (.int 0))) aNil)) (eB bTuple (aCons (eLc (iSeq (eCut (eVar 3) (oSome (eK (.int 1))) oNone)) (gN 4) tYesD (eCall g__law_tidy [] (aCons (eVar 0) (aCons (eVar 4) (aCons (eVar 2) aNil)))) [4]) aNil))))
   sNil)
  (sRet (eCall g__law_listed [] (aCons (eVar 2) (aCons (eB bTuple (aCons (eVar 3) aNil)) aNil))))))
theorem w__law_tidy {P : Program} {w : World} {K : PySem.W.Frag} {mg : Str → Option Value} {base : Heap} {k : Nat} {f : Addr} {cdv : Value} {A : Around} {outer : List Env} {s : Shared} {H : Hp} {E : XK} (M : Md P K w mg) {g__law_tidy : SPEC} (F__law_listed : FnG P w K mg base (k + 1) 2 g__law_listed [] "_law_listed") (F__law_tidy : FnG P w K mg base (k + 1) 3 g__law_tidy [] "_law_tidy")
    (hr : Room (k + 1) (A.deeper (envOfC "_law_tidy" (defScope (top 50)) s.heap.objs.size f cdv))) :
    PSs (cxOf (L2.CX P w) P w K mg base N__law_tidy "_law_tidy" (defScope (top 50)) f cdv A outer s H E) (defBody (top 50)) (RS K (wE E) (r__law_tidy g__law_tidy)) := by
  have S := S__law_tidy
  have hT : TabOk (cxOf (L2.CX P w) P w K mg base N__law_tidy "_law_tidy" (defScope (top 50)) f cdv A outer s H E) TT := M.tab _ rfl rfl
  exact (sv_seq (sv_set 3 S.nd (ev_ix hT (roomU hr) (ev_var 0) (ev_var 1)))
  (sv_seq (sv_if (ev_tcmp (o_in hT (roomU hr)) (ev_ix hT (roomU hr) (ev_var 3) ev_int) (ev_tup (av_cons ev_str (av_cons ev_str (av_cons ev_str (av_cons ev_str (av_cons ev_str av_nil)))))))
   (sv_one (sv_set 3 S.nd (ev_bin o_add (ev_tup (av_cons (ev_ix hT (roomU hr) (ev_var 3) ev_int) av_nil)) (b_tuple M.n_tuple (av_cons (ev_lc [("one", 4)] rfl S.nd (pi_seq (ev_cut (ev_var 3) (ov_some ev_int) ov_none)) (blkOk_by (by kernel_rfl)) (fun _ _ _ _ _ => (gw_name 4 S.nd)) (fun _ _ _ _ _ => tvs_nil) (fun _ _ _ _ _ => (ev_call F__law_tidy hr takes0 (av_cons (ev_var 0) (av_cons (ev_var 4) (av_cons (ev_var 2) av_nil)))))) av_nil)))))
   sv_nil)
  (sv_one (sv_ret (ev_call F__law_listed hr (takes_of rfl rfl rfl rfl) (av_cons (ev_var 2) (av_cons (b_tuple M.n_tuple (av_cons (ev_var 3) av_nil)) av_nil)))))))
/-! _law_listed -/
abbrev N__law_listed : List Str := ["nodes", "node"]
abbrev P__law_listed : List Str := ["nodes", "node"]
theorem S__law_listed : FnScope N__law_listed P__law_listed (defScope (top 51)) := ⟨rfl, rfl, rfl, by decide +kernel, rfl, by decide +kernel, by decide +kernel⟩
def r__law_listed : ES :=
  (sSeq (sIf (tOf (eBin (dNotIn TT) (eVar 1) (eVar 0)))
   (sExpr (eM isLst mAppend (eVar 0) (aCons (eVar 1) aNil)))
   sNil)
  (sRet (eM isLst mIndex (eVar 0) (aCons (eVar 1) aNil))))
theorem w__law_listed {P : Program} {w : World} {K : PySem.W.Frag} {mg : Str → Option Value} {base : Heap} {k : Nat} {f : Addr} {cdv : Value} {A : Around} {outer : List Env} {s : Shared} {H : Hp} {E : XK} (M : Md P K w mg) 
    (hr : Room (k + 1) (A.deeper (envOfC "_law_listed" (defScope (top 51)) s.heap.objs.size f cdv))) :
    PSs (cxOf (L2.CX P w) P w K mg base N__law_listed "_law_listed" (defScope (top 51)) f cdv A outer s H E) (defBody (top 51)) (RS K (wE E) r__law_listed) := by
  have S := S__law_listed
  have hT : TabOk (cxOf (L2.CX P w) P w K mg base N__law_listed "_law_listed" (defScope (top 51)) f cdv A outer s H E) TT := M.tab _ rfl rfl
  exact (sv_seq (sv_if (ev_tcmp (o_notin hT (roomU hr)) (ev_var 1) (ev_var 0))
   (sv_one (sv_expr (b_append (ev_var 0) (av_cons (ev_var 1) av_nil))))
   sv_nil)
  (sv_one (sv_ret (b_index (roomU hr) (ev_var 0) (av_cons (ev_var 1) av_nil)))))
/-! _law_width -/
abbrev N__law_width : List Str := ["sheet", "told", "node", "one"]
abbrev P__law_width : List Str := ["sheet"]
theorem S__law_width : FnScope N__law_width P__law_width (defScope (top 52)) := ⟨rfl, rfl, rfl, by decide +kernel, rfl, by decide +kernel, by decide +kernel⟩
def r__law_width : ES :=
  (sSeq (sAsg (gN 1) (eLst aNil))
  (sSeq (sForS (iSeq (eVar 0)) (gN 2)
   (sExpr (eM isLst mAppend (eVar 1) (aCons (eBin dAdd (eK (.int 1)) (eB bSum (aCons (eLc (iSeq (eCut (eVar 2) (oSome (eK (.int 1))) oNone)) (gN 3) (tTru (eB bIsi (aCons (eVar 3) (aCons (eK (.ty "int")) aNil)))) (eBin (dIx TT) (eVar 1) (eVar 3)) [3]) aNil))) aNil))))
  (sRet (eBin (dIx TT) (eVar 1) (eUn dNeg (eK (.int 1)))))))
theorem w__law_width {P : Program} {w : World} {K : PySem.W.Frag} {mg : Str → Option Value} {base : Heap} {k : Nat} {f : Addr} {cdv : Value} {A : Around} {outer : List Env} {s : Shared} {H : Hp} {E : XK} (M : Md P K w mg) 
    (hr : Room (k + 1) (A.deeper (envOfC "_law_width" (defScope (top 52)) s.heap.objs.size f cdv))) :
    PSs (cxOf (L2.CX P w) P w K mg base N__law_width "_law_width" (defScope (top 52)) f cdv A outer s H E) (defBody (top 52)) (RS K (wE E) r__law_width) := by
  have S := S__law_width
  have hT : TabOk (cxOf (L2.CX P w) P w K mg base N__law_width "_law_width" (defScope (top 52)) f cdv A outer s H E) TT := M.tab _ rfl rfl
  exact (sv_seq (sv_set 1 S.nd (ev_lst av_nil))
  (sv_seq (sv_forS (passes_of rfl) rfl (pi_seq (ev_var 0)) (gv_name 2 S.nd)
   (sv_one (sv_expr (b_append (ev_var 1) (av_cons (ev_bin o_add ev_int (b_sum rfl M.n_sum (av_cons (ev_lc [("one", 3)] rfl S.nd (pi_seq (ev_cut (ev_var 2) (ov_some ev_int) ov_none)) (blkOk_by (by kernel_rfl)) (fun _ _ _ _ _ => (gw_name 3 S.nd)) (fun _ _ _ _ _ => (tvs_one (tv_tru (b_isi M.n_isinstance (av_cons (ev_var 3) (av_cons (ev_ty M.n_int (by decide +kernel)) av_nil)))))) (fun _ _ _ _ _ => (ev_ix hT (roomU hr) (ev_var 1) (ev_var 3)))) av_nil))) av_nil)))))
  (sv_one (sv_ret (ev_ix hT (roomU hr) (ev_var 1) (ev_neg ev_int))))))
/-! _law_short -/
abbrev N__law_short : List Str := ["source", "names", "most", "sheet"]
abbrev P__law_short : List Str := ["source", "names", "most"]
theorem S__law_short : FnScope N__law_short P__law_short (defScope (top 53)) := ⟨rfl, rfl, rfl, by decide +kernel, rfl, by decide +kernel, by decide +kernel⟩
def r__law_short : ES :=
  (sSeq (sAsg (gN 3) (eCall g__law_sheet [] (aCons (eVar 0) (aCons (eVar 1) (aCons (eBin dAdd (eK (.int 1)) (eCall g__law_pick [] (aCons (eVar 0) (aCons (eVar 2) aNil)))) aNil)))))
  (sRet (eIf (tOf (eBin dLt (eCall g__law_width [] (aCons (eVar 3) aNil)) (eK (.int 40)))) (eVar 3) (eCall g__law_shape [] (aCons (eVar 0) (aCons (eVar 1) aNil))))))
theorem w__law_short {P : Program} {w : World} {K : PySem.W.Frag} {mg : Str → Option Value} {base : Heap} {k : Nat} {f : Addr} {cdv : Value} {A : Around} {outer : List Env} {s : Shared} {H : Hp} {E : XK} (M : Md P K w mg) (F__law_pick : FnG P w K mg base (k + 1) 2 g__law_pick [] "_law_pick") (F__law_shape : FnG P w K mg base (k + 1) 2 g__law_shape [] "_law_shape") (F__law_sheet : FnG P w K mg base (k + 1) 3 g__law_sheet [] "_law_sheet") (F__law_width : FnG P w K mg base (k + 1) 1 g__law_width [] "_law_width")
    (hr : Room (k + 1) (A.deeper (envOfC "_law_short" (defScope (top 53)) s.heap.objs.size f cdv))) :
    PSs (cxOf (L2.CX P w) P w K mg base N__law_short "_law_short" (defScope (top 53)) f cdv A outer s H E) (defBody (top 53)) (RS K (wE E) r__law_short) := by
  have S := S__law_short
  exact (sv_seq (sv_set 3 S.nd (ev_call F__law_sheet hr (takes_of rfl rfl rfl rfl) (av_cons (ev_var 0) (av_cons (ev_var 1) (av_cons (ev_bin o_add ev_int (ev_call F__law_pick hr (takes_of rfl rfl rfl rfl) (av_cons (ev_var 0) (av_cons (ev_var 2) av_nil)))) av_nil)))))
  (sv_one (sv_ret (ev_if (ev_tcmp o_lt (ev_call F__law_width hr (takes_of rfl rfl rfl rfl) (av_cons (ev_var 3) av_nil)) ev_int) (ev_var 3) (ev_call F__law_shape hr (takes_of rfl rfl rfl rfl) (av_cons (ev_var 0) (av_cons (ev_var 1) av_nil)))))))
/-! _law_refused -/
abbrev N__law_refused : List Str := ["names", "thing", "error"]
abbrev P__law_refused : List Str := ["names"]
theorem S__law_refused : FnScope N__law_refused P__law_refused (defScope (top 54)) := ⟨rfl, rfl, rfl, by decide +kernel, rfl, by decide +kernel, by decide +kernel⟩
def r__law_refused : ES :=
  (sSeq (sForS (iSeq (eLst (aCons (eK .non) (aCons (eK (.int 3)) (aCons (eLst (aCons (eK (.str "yes")) aNil)) (aCons (eTup (aCons (eK (.str "yes")) aNil)) aNil)))))) (gN 1)
   (sTry SS 2 "HelpError"
    (sSeq (sExpr (eCall g_read_saying [] (aCons (eVar 0) (aCons (eVar 1) aNil))))
    (sRet (eK (.bl false))))
    (fun a C dx => (sIf (tOr (tNot (tTru (eErrIs SS a C "BadText" dx 2))) (tOf (eBin dNe (eErrF SS a C "HelpError" "at" dx 2) (eUn dNeg (eK (.int 1))))))
     (sRet (eK (.bl false)))
     sNil))))
  (sSeq (sIf (tOf (eBin dNe (eB bLen (aCons (eCall (shG g_checked_sheet) [] (aCons (eVar 0) (aCons (eBin dMul (eLst (aCons (eLst (aCons (eK (.str "yes")) aNil)) aNil)) (eK (.int 2000))) aNil))) aNil)) (eK (.int 2000))))
   (sRet (eK (.bl false)))
   sNil)
  (sSeq (sTry SS 2 "BadSheet"
   (sSeq (sExpr (eCall (shG g_checked_sheet) [] (aCons (eVar 0) (aCons (eBin dMul (eLst (aCons (eLst (aCons (eK (.str "yes")) aNil)) aNil)) (eK (.int 2001))) aNil))))
   (sRet (eK (.bl false))))
   (fun a C dx => (sIf (tOf (eBin dNe (eErrF SS a C "BadSheet" "number" dx 2) (eUn dNeg (eK (.int 1)))))
    (sRet (eK (.bl false)))
    sNil)))
  (sSeq (sTry SS 2 "BadNames"
   (sExpr (eCall g_read_saying [] (aCons (eBin dAdd (eRev (eVar 0)) (eK (.str "x"))) (aCons (eK .non) aNil))))
   (fun a C dx => (sRet (eBin dEq (eErrF SS a C "BadNames" "thing" dx 2) (eBin dAdd (eRev (eVar 0)) (eK (.str "x")))))))
  (sRet (eK (.bl false)))))))
theorem w__law_refused {P : Program} {w : World} {K : PySem.W.Frag} {mg : Str → Option Value} {base : Heap} {k : Nat} {f : Addr} {cdv : Value} {A : Around} {outer : List Env} {s : Shared} {H : Hp} {E : XK} (M : Md P K w mg) (F_checked_sheet : FnG P w K mg base (k + 1) 2 (shG g_checked_sheet) [] "checked_sheet") (F_read_saying : FnG P w K mg base (k + 1) 2 g_read_saying [] "read_saying")
    (hr : Room (k + 1) (A.deeper (envOfC "_law_refused" (defScope (top 54)) s.heap.objs.size f cdv))) :
    PSs (cxOf (L2.CX P w) P w K mg base N__law_refused "_law_refused" (defScope (top 54)) f cdv A outer s H E) (defBody (top 54)) (RS K (wE E) r__law_refused) := by
  have S := S__law_refused
  exact (sv_seq (sv_forS (passes_of rfl) rfl (pi_seq (ev_lst (av_cons ev_non (av_cons ev_int (av_cons (ev_lst (av_cons ev_str av_nil)) (av_cons (ev_tup (av_cons ev_str av_nil)) av_nil)))))) (gv_name 1 S.nd)
   (sv_one (sv_try M.sub 2 M.x_HelpError rfl rfl S.nd (takes_of rfl rfl rfl rfl)
    (fun W pn xe tkt hp => (sv_seq (sv_expr (ev_call F_read_saying hr tkt (av_cons (ev_var 0) (av_cons (ev_var 1) av_nil))))
    (sv_one (sv_ret ev_bl))))
    (fun a oe C dx pn hz hv => (sv_one (sv_if (PW.pt (tv_or (tv_not (tv_tru (ev_errIs M.sub 2 hz hv M.n_isinstance M.x_BadText))) (tv_or1 (ev_tcmp (o_ne (roomM hr)) (ev_errF M.sub 2 hz hv (M.nof_at) (Y := "HelpError")) (ev_neg ev_int)))))
     (sv_one (sv_ret ev_bl))
     sv_nil))))))
  (sv_seq (sv_if (ev_tcmp (o_ne (roomU hr)) (b_len M.n_len (av_cons (ev_call F_checked_sheet hr (takes_of rfl rfl rfl rfl) (av_cons (ev_var 0) (av_cons (ev_bin o_mul (ev_lst (av_cons (ev_lst (av_cons ev_str av_nil)) av_nil)) ev_int) av_nil))) av_nil)) ev_int)
   (sv_one (sv_ret ev_bl))
   sv_nil)
  (sv_seq (sv_try M.sub 2 M.x_BadSheet rfl rfl S.nd (takes_of rfl rfl rfl rfl)
   (fun W pn xe tkt hp => (sv_seq (sv_expr (ev_call F_checked_sheet hr tkt (av_cons (ev_var 0) (av_cons (ev_bin o_mul (ev_lst (av_cons (ev_lst (av_cons ev_str av_nil)) av_nil)) ev_int) av_nil))))
   (sv_one (sv_ret ev_bl))))
   (fun a oe C dx pn hz hv => (sv_one (sv_if (ev_tcmp (o_ne (roomM hr)) (ev_errF M.sub 2 hz hv (M.nof_number) (Y := "BadSheet")) (ev_neg ev_int))
    (sv_one (sv_ret ev_bl))
    sv_nil))))
  (sv_seq (sv_try M.sub 2 M.x_BadNames rfl rfl S.nd (takes_of rfl rfl rfl rfl)
   (fun W pn xe tkt hp => (sv_one (sv_expr (ev_call F_read_saying hr tkt (av_cons (ev_bin o_add (ev_rev (ev_var 0)) ev_str) (av_cons ev_non av_nil))))))
   (fun a oe C dx pn hz hv => (sv_one (sv_ret (ev_cmp (o_eq (roomM hr)) (ev_errF M.sub 2 hz hv (M.nof_thing) (Y := "BadNames")) (ev_bin o_add (ev_rev (ev_var 0)) ev_str))))))
  (sv_one (sv_ret ev_bl))))))
/-! law -/
abbrev N_law : List Str := ["script", "source", "names", "drawer", "sheets", "texts", "sheet", "word", "many", "deep_v", "nodes", "k", "due", "text", "first", "second", "told"]
abbrev P_law : List Str := ["script"]
theorem S_law : FnScope N_law P_law (defScope (top 55)) := ⟨rfl, rfl, rfl, by decide +kernel, rfl, by decide +kernel, by decide +kernel⟩
def r_law : ES :=
  (sSeq (sAsg (gN 1) (eCall g__law_source [] (aCons (eVar 0) (aCons (eK (.int 0)) aNil))))
  (sSeq (sAsg (gN 2) (eBin (dIx TT) (eLst (aCons (eK (.str "ab")) (aCons (eK (.str "a")) (aCons (eK (.str "bd")) (aCons (eK (.str "abc")) (aCons (eK (.str "f")) (aCons (eK (.str "ace")) (aCons (eK (.str "ef")) (aCons (eK (.str "cdf")) aNil))))))))) (eCall g__law_pick [] (aCons (eVar 1) (aCons (eK (.int 8)) aNil)))))
  (sSeq (sAsg (gN 3) (eCall g__law_source [] (aCons (eVar 0) (aCons (eK (.int 1)) aNil))))
  (sSeq (sAsg (gN 4) (eLst (aCons (eCall g__law_short [] (aCons (eVar 1) (aCons (eVar 2) (aCons (eK (.int 7)) aNil)))) (aCons (eCall g__law_short [] (aCons (eVar 3) (aCons (eVar 2) (aCons (eK (.int 4)) aNil)))) aNil))))
  (sSeq (sAsg (gN 5) (eLst aNil))
  (sSeq (sForS (iSeq (eVar 4)) (gN 6)
   (sSeq (sAsg (gN 10) (eLst aNil))
   (sSeq (sExpr (eCall g__law_tidy [] (aCons (eVar 6) (aCons (eBin dSub (eB bLen (aCons (eVar 6) aNil)) (eK (.int 1))) (aCons (eVar 10) aNil)))))
   (sSeq (sAsg (gN 12) (eB bTuple (aCons (eVar 10) aNil)))
   (sSeq (sForS (iSeq (eLst (aCons (eCall g__law_written [] (aCons (eVar 6) (aCons (eBin dSub (eB bLen (aCons (eVar 6) aNil)) (eK (.int 1))) (aCons (eVar 3) aNil)))) (aCons (eCall g__law_written [] (aCons (eVar 6) (aCons (eBin dSub (eB bLen (aCons (eVar 6) aNil)) (eK (.int 1))) (aCons (eK .non) aNil)))) aNil)))) (gN 13)
    (sSeq (sAsg (gN 16) (eCall g_read_saying [] (aCons (eVar 2) (aCons (eVar 13) aNil))))
    (sIf (tOr (tOf (eBin dNe (eVar 16) (eVar 12))) (tNot (tTru (eB bIsi (aCons (eVar 16) (aCons (eK (.ty "tuple")) aNil))))))
     (sRet (eK (.bl false)))
     sNil)))
   (sSeq (sExpr (eM isLst mAppend (eVar 5) (aCons (eVar 13) aNil)))
   (sIf (tOr (tOf (eBin dNe (eCall (shG g_checked_sheet) [] (aCons (eVar 2) (aCons (eVar 12) aNil))) (eVar 12))) (tOr (tOf (eBin dNe (eCall g_tidy_saying [] (aCons (eVar 2) (aCons (eVar 12) aNil))) (eVar 12))) (tOf (eBin dNe (eCall g_tidy_saying [] (aCons (eVar 2) (aCons (eVar 6) aNil))) (eVar 12)))))
    (sRet (eK (.bl false)))
    sNil)))))))
  (sSeq (sForS (iSeq (eLst (aCons (eK (.str "adds")) (aCons (eK (.str "or")) (aCons (eK (.str "and")) (aCons (eK (.str "apart")) aNil)))))) (gN 7)
   (sSeq (sAsg (gN 10) (eLst aNil))
   (sSeq (sAsg (gN 14) (eCall g__law_tidy [] (aCons (eBin (dIx TT) (eVar 4) (eK (.int 0))) (aCons (eBin dSub (eB bLen (aCons (eBin (dIx TT) (eVar 4) (eK (.int 0))) aNil)) (eK (.int 1))) (aCons (eVar 10) aNil)))))
   (sSeq (sAsg (gN 15) (eCall g__law_tidy [] (aCons (eBin (dIx TT) (eVar 4) (eK (.int 1))) (aCons (eBin dSub (eB bLen (aCons (eBin (dIx TT) (eVar 4) (eK (.int 1))) aNil)) (eK (.int 1))) (aCons (eVar 10) aNil)))))
   (sSeq (sExpr (eCall g__law_listed [] (aCons (eVar 10) (aCons (eTup (aCons (eVar 7) (aCons (eVar 14) (aCons (eVar 15) aNil)))) aNil))))
   (sIf (tOf (eBin dNe (eCall g_read_saying [] (aCons (eVar 2) (aCons (eBin dAdd (eBin dAdd (eBin dAdd (eBin dAdd (eBin dAdd (eBin dAdd (eK (.str "(")) (eBin (dIx TT) (eVar 5) (eK (.int 0)))) (eK (.str ") "))) (eVar 7)) (eK (.str " ("))) (eBin (dIx TT) (eVar 5) (eK (.int 1)))) (eK (.str ")"))) aNil))) (eB bTuple (aCons (eVar 10) aNil))))
    (sRet (eK (.bl false)))
    sNil))))))
  (sSeq (sAsg (gN 8) (eCall g__law_pick [] (aCons (eVar 3) (aCons (eK (.int 31)) aNil))))
  (sSeq (sAsg (gN 9) (eBin dAdd (eBin dAdd (eBin dAdd (eBin dMul (eK (.str "(")) (eVar 8)) (eBin dMul (eK (.str "not ")) (eBin dSub (eK (.int 30)) (eVar 8)))) (eK (.str "yes"))) (eBin dMul (eK (.str ")")) (eVar 8))))
  (sSeq (sAsg (gN 10) (eLst (aCons (eTup (aCons (eK (.str "yes")) aNil)) aNil)))
  (sSeq (sForS (iR1 (aCons (eBin dSub (eK (.int 30)) (eVar 8)) aNil)) (gN 11)
   (sExpr (eM isLst mAppend (eVar 10) (aCons (eTup (aCons (eK (.str "not")) (aCons (eVar 11) aNil))) aNil))))
  (sSeq (sIf (tOf (eBin dNe (eCall g_read_saying [] (aCons (eVar 2) (aCons (eVar 9) aNil))) (eB bTuple (aCons (eVar 10) aNil))))
   (sRet (eK (.bl false)))
   sNil)
  (sSeq (sAsg (gN 10) (eBin dAdd (eLst (aCons (eTup (aCons (eK (.str "yes")) aNil)) (aCons (eTup (aCons (eK (.str "not")) (aCons (eK (.int 0)) aNil))) aNil))) (eLc (iR1 (aCons (eK (.int 30)) aNil)) (gN 11) tYesD (eTup (aCons (eK (.str "and")) (aCons (eBin dAdd (eK (.int 1)) (eVar 11)) (aCons (eK (.int 1)) aNil)))) [11])))
  (sSeq (sIf (tOf (eBin dNe (eCall g_read_saying [] (aCons (eVar 2) (aCons (eM isStr mJoin (eK (.str " and ")) (aCons (eBin dMul (eLst (aCons (eK (.str "not yes")) aNil)) (eK (.int 31))) aNil)) aNil))) (eB bTuple (aCons (eVar 10) aNil))))
   (sRet (eK (.bl false)))
   sNil)
  (sSeq (sAsg (gN 8) (eBin dAdd (eK (.int 1)) (eCall g__law_pick [] (aCons (eVar 3) (aCons (eK (.int 262)) aNil)))))
  (sSeq (sAsg (gN 10) (eBin dAdd (eBin dAdd (eLst (aCons (eTup (aCons (eK (.str "yes")) aNil)) aNil)) (eLc (iR1 (aCons (eBin dSub (eVar 8) (eK (.int 1))) aNil)) (gN 11) tYesD (eTup (aCons (eK (.str "and")) (aCons (eVar 11) (aCons (eK (.int 0)) aNil)))) [11])) (eLst (aCons (eTup (aCons (eK (.str "bare")) aNil)) (aCons (eTup (aCons (eK (.str "and")) (aCons (eBin dSub (eVar 8) (eK (.int 1))) (aCons (eVar 8) aNil)))) aNil)))))
  (sSeq (sIf (tOf (eBin dNe (eCall g_read_saying [] (aCons (eVar 2) (aCons (eM isStr mJoin (eK (.str " and ")) (aCons (eBin dAdd (eBin dMul (eLst (aCons (eK (.str "yes")) aNil)) (eVar 8)) (eLst (aCons (eK (.str "bare")) aNil))) aNil)) aNil))) (eB bTuple (aCons (eVar 10) aNil))))
   (sRet (eK (.bl false)))
   sNil)
  (sRet (eCall g__law_refused [] (aCons (eVar 2) aNil))))))))))))))))))))
theorem w_law {P : Program} {w : World} {K : PySem.W.Frag} {mg : Str → Option Value} {base : Heap} {k : Nat} {f : Addr} {cdv : Value} {A : Around} {outer : List Env} {s : Shared} {H : Hp} {E : XK} (M : Md P K w mg) (F__law_listed : FnG P w K mg base (k + 1) 2 g__law_listed [] "_law_listed") (F__law_pick : FnG P w K mg base (k + 1) 2 g__law_pick [] "_law_pick") (F__law_refused : FnG P w K mg base (k + 1) 1 g__law_refused [] "_law_refused") (F__law_short : FnG P w K mg base (k + 1) 3 g__law_short [] "_law_short") (F__law_source : FnG P w K mg base (k + 1) 2 g__law_source [] "_law_source") (F__law_tidy : FnG P w K mg base (k + 1) 3 g__law_tidy [] "_law_tidy") (F__law_written : FnG P w K mg base (k + 1) 3 g__law_written [] "_law_written") (F_checked_sheet : FnG P w K mg base (k + 1) 2 (shG g_checked_sheet) [] "checked_sheet") (F_read_saying : FnG P w K mg base (k + 1) 2 g_read_saying [] "read_saying") (F_tidy_saying : FnG P w K mg base (k + 1) 2 g_tidy_saying [] "tidy_saying")
    (hr : Room (k + 1) (A.deeper (envOfC "law" (defScope (top 55)) s.heap.objs.size f cdv))) :
    PSs (cxOf (L2.CX P w) P w K mg base N_law "law" (defScope (top 55)) f cdv A outer s H E) (defBody (top 55)) (RS K (wE E) r_law) := by
  have S := S_law
  have hT : TabOk (cxOf (L2.CX P w) P w K mg base N_law "law" (defScope (top 55)) f cdv A outer s H E) TT := M.tab _ rfl rfl
  exact (sv_seq (sv_set 1 S.nd (ev_call F__law_source hr (takes_of rfl rfl rfl rfl) (av_cons (ev_var 0) (av_cons ev_int av_nil))))
  (sv_seq (sv_set 2 S.nd (ev_ix hT (roomU hr) (ev_lst (av_cons ev_str (av_cons ev_str (av_cons ev_str (av_cons ev_str (av_cons ev_str (av_cons ev_str (av_cons ev_str (av_cons ev_str av_nil))))))))) (ev_call F__law_pick hr (takes_of rfl rfl rfl rfl) (av_cons (ev_var 1) (av_cons ev_int av_nil)))))
  (sv_seq (sv_set 3 S.nd (ev_call F__law_source hr (takes_of rfl rfl rfl rfl) (av_cons (ev_var 0) (av_cons ev_int av_nil))))
  (sv_seq (sv_set 4 S.nd (ev_lst (av_cons (ev_call F__law_short hr (takes_of rfl rfl rfl rfl) (av_cons (ev_var 1) (av_cons (ev_var 2) (av_cons ev_int av_nil)))) (av_cons (ev_call F__law_short hr (takes_of rfl rfl rfl rfl) (av_cons (ev_var 3) (av_cons (ev_var 2) (av_cons ev_int av_nil)))) av_nil))))
  (sv_seq (sv_set 5 S.nd (ev_lst av_nil))
  (sv_seq (sv_forS (passes_of rfl) rfl (pi_seq (ev_var 4)) (gv_name 6 S.nd)
   (sv_seq (sv_set 10 S.nd (ev_lst av_nil))
   (sv_seq (sv_expr (ev_call F__law_tidy hr (takes_of rfl rfl rfl rfl) (av_cons (ev_var 6) (av_cons (ev_bin o_sub (b_len M.n_len (av_cons (ev_var 6) av_nil)) ev_int) (av_cons (ev_var 10) av_nil)))))
   (sv_seq (sv_set 12 S.nd (b_tuple M.n_tuple (av_cons (ev_var 10) av_nil)))
   (sv_seq (sv_forS (passes_of rfl) rfl (pi_seq (ev_lst (av_cons (ev_call F__law_written hr (takes_of rfl rfl rfl rfl) (av_cons (ev_var 6) (av_cons (ev_bin o_sub (b_len M.n_len (av_cons (ev_var 6) av_nil)) ev_int) (av_cons (ev_var 3) av_nil)))) (av_cons (ev_call F__law_written hr (takes_of rfl rfl rfl rfl) (av_cons (ev_var 6) (av_cons (ev_bin o_sub (b_len M.n_len (av_cons (ev_var 6) av_nil)) ev_int) (av_cons ev_non av_nil)))) av_nil)))) (gv_name 13 S.nd)
    (sv_seq (sv_set 16 S.nd (ev_call F_read_saying hr (takes_of rfl rfl rfl rfl) (av_cons (ev_var 2) (av_cons (ev_var 13) av_nil))))
    (sv_one (sv_if (PW.pt (tv_or (ev_tcmp (o_ne (roomU hr)) (ev_var 16) (ev_var 12)) (tv_or1 (tv_not (tv_tru (b_isi M.n_isinstance (av_cons (ev_var 16) (av_cons (ev_ty M.n_tuple (by decide +kernel)) av_nil))))))))
     (sv_one (sv_ret ev_bl))
     sv_nil))))
   (sv_seq (sv_expr (b_append (ev_var 5) (av_cons (ev_var 13) av_nil)))
   (sv_one (sv_if (PW.pt (tv_or (ev_tcmp (o_ne (roomU hr)) (ev_call F_checked_sheet hr (takes_of rfl rfl rfl rfl) (av_cons (ev_var 2) (av_cons (ev_var 12) av_nil))) (ev_var 12)) (tv_or (ev_tcmp (o_ne (roomU hr)) (ev_call F_tidy_saying hr (takes_of rfl rfl rfl rfl) (av_cons (ev_var 2) (av_cons (ev_var 12) av_nil))) (ev_var 12)) (tv_or1 (ev_tcmp (o_ne (roomU hr)) (ev_call F_tidy_saying hr (takes_of rfl rfl rfl rfl) (av_cons (ev_var 2) (av_cons (ev_var 6) av_nil))) (ev_var 12))))))
    (sv_one (sv_ret ev_bl))
    sv_nil))))))))
  (sv_seq (sv_forS (passes_of rfl) rfl (pi_seq (ev_lst (av_cons ev_str (av_cons ev_str (av_cons ev_str (av_cons ev_str av_nil)))))) (gv_name 7 S.nd)
   (sv_seq (sv_set 10 S.nd (ev_lst av_nil))
   (sv_seq (sv_set 14 S.nd (ev_call F__law_tidy hr (takes_of rfl rfl rfl rfl) (av_cons (ev_ix hT (roomU hr) (ev_var 4) ev_int) (av_cons (ev_bin o_sub (b_len M.n_len (av_cons (ev_ix hT (roomU hr) (ev_var 4) ev_int) av_nil)) ev_int) (av_cons (ev_var 10) av_nil)))))
   (sv_seq (sv_set 15 S.nd (ev_call F__law_tidy hr (takes_of rfl rfl rfl rfl) (av_cons (ev_ix hT (roomU hr) (ev_var 4) ev_int) (av_cons (ev_bin o_sub (b_len M.n_len (av_cons (ev_ix hT (roomU hr) (ev_var 4) ev_int) av_nil)) ev_int) (av_cons (ev_var 10) av_nil)))))
   (sv_seq (sv_expr (ev_call F__law_listed hr (takes_of rfl rfl rfl rfl) (av_cons (ev_var 10) (av_cons (ev_tup (av_cons (ev_var 7) (av_cons (ev_var 14) (av_cons (ev_var 15) av_nil)))) av_nil))))
   (sv_one (sv_if (ev_tcmp (o_ne (roomU hr)) (ev_call F_read_saying hr (takes_of rfl rfl rfl rfl) (av_cons (ev_var 2) (av_cons (ev_bin o_add (ev_bin o_add (ev_bin o_add (ev_bin o_add (ev_bin o_add (ev_bin o_add ev_str (ev_ix hT (roomU hr) (ev_var 5) ev_int)) ev_str) (ev_var 7)) ev_str) (ev_ix hT (roomU hr) (ev_var 5) ev_int)) ev_str) av_nil))) (b_tuple M.n_tuple (av_cons (ev_var 10) av_nil)))
    (sv_one (sv_ret ev_bl))
    sv_nil)))))))
  (sv_seq (sv_set 8 S.nd (ev_call F__law_pick hr (takes_of rfl rfl rfl rfl) (av_cons (ev_var 3) (av_cons ev_int av_nil))))
  (sv_seq (sv_set 9 S.nd (ev_bin o_add (ev_bin o_add (ev_bin o_add (ev_bin o_mul ev_str (ev_var 8)) (ev_bin o_mul ev_str (ev_bin o_sub ev_int (ev_var 8)))) ev_str) (ev_bin o_mul ev_str (ev_var 8))))
  (sv_seq (sv_set 10 S.nd (ev_lst (av_cons (ev_tup (av_cons ev_str av_nil)) av_nil)))
  (sv_seq (sv_forS (passes_of rfl) rfl (iv_r1 M.n_range (av_cons (ev_bin o_sub ev_int (ev_var 8)) av_nil)) (gv_name 11 S.nd)
   (sv_one (sv_expr (b_append (ev_var 10) (av_cons (ev_tup (av_cons ev_str (av_cons (ev_var 11) av_nil))) av_nil)))))
  (sv_seq (sv_if (ev_tcmp (o_ne (roomU hr)) (ev_call F_read_saying hr (takes_of rfl rfl rfl rfl) (av_cons (ev_var 2) (av_cons (ev_var 9) av_nil))) (b_tuple M.n_tuple (av_cons (ev_var 10) av_nil)))
   (sv_one (sv_ret ev_bl))
   sv_nil)
  (sv_seq (sv_set 10 S.nd (ev_bin o_add (ev_lst (av_cons (ev_tup (av_cons ev_str av_nil)) (av_cons (ev_tup (av_cons ev_str (av_cons ev_int av_nil))) av_nil))) (ev_lc [("k", 11)] rfl S.nd (iv_r1 M.n_range (av_cons ev_int av_nil)) (blkOk_by (by kernel_rfl)) (fun _ _ _ _ _ => (gw_name 11 S.nd)) (fun _ _ _ _ _ => tvs_nil) (fun _ _ _ _ _ => (ev_tup (av_cons ev_str (av_cons (ev_bin o_add ev_int (ev_var 11)) (av_cons ev_int av_nil))))))))
  (sv_seq (sv_if (ev_tcmp (o_ne (roomU hr)) (ev_call F_read_saying hr (takes_of rfl rfl rfl rfl) (av_cons (ev_var 2) (av_cons (b_join ev_str (av_cons (ev_bin o_mul (ev_lst (av_cons ev_str av_nil)) ev_int) av_nil)) av_nil))) (b_tuple M.n_tuple (av_cons (ev_var 10) av_nil)))
   (sv_one (sv_ret ev_bl))
   sv_nil)
  (sv_seq (sv_set 8 S.nd (ev_bin o_add ev_int (ev_call F__law_pick hr (takes_of rfl rfl rfl rfl) (av_cons (ev_var 3) (av_cons ev_int av_nil)))))
  (sv_seq (sv_set 10 S.nd (ev_bin o_add (ev_bin o_add (ev_lst (av_cons (ev_tup (av_cons ev_str av_nil)) av_nil)) (ev_lc [("k", 11)] rfl S.nd (iv_r1 M.n_range (av_cons (ev_bin o_sub (ev_var 8) ev_int) av_nil)) (blkOk_by (by kernel_rfl)) (fun _ _ _ _ _ => (gw_name 11 S.nd)) (fun _ _ _ _ _ => tvs_nil) (fun _ _ _ _ _ => (ev_tup (av_cons ev_str (av_cons (ev_var 11) (av_cons ev_int av_nil))))))) (ev_lst (av_cons (ev_tup (av_cons ev_str av_nil)) (av_cons (ev_tup (av_cons ev_str (av_cons (ev_bin o_sub (ev_var 8) ev_int) (av_cons (ev_var 8) av_nil)))) av_nil)))))
  (sv_seq (sv_if (ev_tcmp (o_ne (roomU hr)) (ev_call F_read_saying hr (takes_of rfl rfl rfl rfl) (av_cons (ev_var 2) (av_cons (b_join ev_str (av_cons (ev_bin o_add (ev_bin o_mul (ev_lst (av_cons ev_str av_nil)) (ev_var 8)) (ev_lst (av_cons ev_str av_nil))) av_nil)) av_nil))) (b_tuple M.n_tuple (av_cons (ev_var 10) av_nil)))
   (sv_one (sv_ret ev_bl))
   sv_nil)
  (sv_one (sv_ret (ev_call F__law_refused hr (takes_of rfl rfl rfl rfl) (av_cons (ev_var 2) av_nil)))))))))))))))))))))
end L2.EV
set_option maxHeartbeats 1000000
/-! K01L31: the law's draws. -/
namespace L2.EV
open PySem PySem.Spec PyProof.Rows
theorem ixL {a : Addr} {xs : List D} {i : Nat} {x : D} {m : Mem} {Q : QD} (h : m a = some (.lst xs)) (hx : xs[i]? = some x) : dIx TT (.ref a) (.int (i : Nat)) m Q = Q x m := by
  simp only [dIx, h, intQ]; rw [atI_nat hx]; rfl
theorem ixS {a : Addr} {d s c : Int} {m : Mem} (h : m a = some (srcM d s c)) : (∀ Q : QD, dIx TT (.ref a) (.int 0) m Q = Q (.int d) m) ∧ (∀ Q : QD, dIx TT (.ref a) (.int 1) m Q = Q (.int s) m) ∧ ∀ Q : QD, dIx TT (.ref a) (.int 2) m Q = Q (.int c) m :=
  ⟨fun _ => ixL (i := 0) h rfl, fun _ => ixL (i := 1) h rfl, fun _ => ixL (i := 2) h rfl⟩
theorem setS {a : Addr} {d s c x : Int} {m : Mem} (h : m a = some (srcM d s c)) : (∀ P : Mem → Prop, dSetIx (.ref a) (.int 0) (.int x) m P = P (mup m a (srcM x s c))) ∧ ∀ P : Mem → Prop, dSetIx (.ref a) (.int 2) (.int x) m P = P (mup m a (srcM d s x)) := by
  constructor <;> intro P <;> simp only [dSetIx, h, srcM] <;> rfl
theorem gt_int {i j : Int} {m : Mem} {Q : QD} : dGt (.int i) (.int j) m Q = Q (.bl (decide (i > j))) m := rfl
theorem lt_int {i j : Int} {m : Mem} {Q : QD} : dLt (.int i) (.int j) m Q = Q (.bl (decide (i < j))) m := rfl
theorem mulL {i j : Int} (h : -(2 ^ 64) < i ∧ i < 2 ^ 64) : mulOk i j := .inl (.inl h)
theorem mulR {i j : Int} (h : -(2 ^ 64) < j ∧ j < 2 ^ 64) : mulOk i j := .inl (.inr h)
theorem divOk {i : Int} {n : Nat} (h : 0 < n) (h2 : n < 2 ^ 64) : CDivW i (n : Int) := wide_div (b := 64) (by omega) (by rw [Int.natAbs_natCast]; exact h2) (by decide) (by decide)
theorem shM_same {P : Mem → Prop} {m : Mem} (h : P m) : shM P m := shM_of h
theorem l__law_pick {ds : List D} {m : Mem} {Q : QD} {X : XD} (h : g__law_pick ds m Q X) : r__law_pick (startD N__law_pick.length ds) m (zsS Q X) := by
  obtain ⟨a, n, rfl, ⟨d, s, c, ha⟩, h1, h2, h⟩ := h
  show r__law_pick [some (.ref a), some (.int (n : Nat)), none, none] m (zsS Q X)
  obtain ⟨x0, x1, x2⟩ := ixS ha
  have hn : (0 : Int) < (n : Int) := by omega
  rw [r__law_pick, sSeq]
  simp only [sNil, sSeq, sExpr, sRet, sRetN, sIf, sBrk, sCont, sAsg, gN, gsNil, gsCons, gT, sSetIx, sSetF, fldQ, sAug, sAugF, sRaise, xs_, zsOf, eK, eVar, eBin, eUn, eChain, eAnd, eOr, eNot, eIf, tOf, bK, tAnd, tOr, tNot, tTru, truK, aNil, aCons, eTup, eLst, dRef, eNewK, eNewT, eCut, oNone, oSome, eB, eM, eCall, eMeth, insQ, eMake, eCallL, eLc, tYesD, wipeD, iSeq, iterQ, noG, iR1, iR2, iZip2, iEn, d1Q, d2Q, lstQ, strQ, intQ, bLen, bIsi, isiQ, tysOf, bList, bTuple, tupQ, bInt, bAbs, bSum, bAll, bAny, isLst, isStr, mAppend, mPop, mExtend, mIndex, mJoin, dIs, dIsNot, dAdd, dSub, dMul, dMod, dFdiv, dPow, dShr, dShl, dNeg, someQ, signQ, oneQ, isSomeQ, dIAdd, eRev, eDisp, pNil, pCons, gsCons, zsS, dI, List.getElem?_cons_zero, List.getElem?_cons_succ, List.set_cons_succ, List.set_cons_zero, List.append_nil, x0, gt_int]
  refine ⟨fun q => ?_, fun q => ?_⟩
  · have q' := of_decide_eq_true q
    refine ⟨hn, divOk h1 (by omega), ?_⟩
    rw [(setS ha).1]
    refine shM_of ?_
    have hv : d % (n : Int) = ((d % (n : Int)).toNat : Nat) := by have := Int.emod_nonneg d (by omega : (n : Int) ≠ 0); omega
    rw [hv]
    exact h _ _ _ _ (by have := Int.emod_lt_of_pos d hn; have := Int.emod_nonneg d (by omega : (n : Int) ≠ 0); omega)
  · simp only [x2]
    rw [(setS ha).2]
    have ha2 : mup m a (srcM d s (c + 1)) a = some (srcM d s (c + 1)) := mup_same
    obtain ⟨y0, y1, y2⟩ := ixS ha2
    simp only [y0, y1, y2]
    have b1 := fun x : Int => Int.emod_nonneg x (by decide : (2147483647 : Int) ≠ 0)
    have b2 := fun x : Int => Int.emod_lt_of_pos x (by decide : (0 : Int) < 2147483647)
    have b3 := fun x : Int => Int.emod_nonneg x (by decide : (2147483629 : Int) ≠ 0)
    have b4 := fun x : Int => Int.emod_lt_of_pos x (by decide : (0 : Int) < 2147483629)
    generalize hm1 : (s + 7919 * (c + 1)) * 48271 % 2147483647 = m1
    have c1 := b1 ((s + 7919 * (c + 1)) * 48271); have c2 := b2 ((s + 7919 * (c + 1)) * 48271)
    rw [hm1] at c1 c2
    generalize hm2 : (m1 * m1 + 69621 * (c + 1) + s) % 2147483629 = m2
    generalize hm3 : (m2 * 16807 + 11) % 2147483647 = m3
    have d1 := b1 (m2 * 16807 + 11); have d2 := b2 (m2 * 16807 + 11)
    rw [hm3] at d1 d2
    refine ⟨mulL (by decide), mulR (by decide), by decide, mulL (by omega), mulL (by decide), by decide, mulR (by decide), by decide, mulL (by omega), by decide, divOk (n := 3) (by decide) (by decide), hn, ?_⟩
    refine shM_of ?_
    generalize (m3 * m3 + m3) % 2147483587 / 3 = r
    have hv : r % (n : Int) = ((r % (n : Int)).toNat : Nat) := by have := Int.emod_nonneg r (by omega : (n : Int) ≠ 0); omega
    rw [hv]
    exact h _ _ _ _ (by have := Int.emod_lt_of_pos r hn; have := Int.emod_nonneg r (by omega : (n : Int) ≠ 0); omega)
end L2.EV
set_option maxHeartbeats 1000000
/-! K01L32: the law's sources. -/
namespace L2.EV
open PySem PySem.Spec PyProof.Rows
theorem lis_cases {m : Mem} {d : D} {xs : List D} (h : lisOf m d = some xs) : d = .lis xs ∨ ∃ a, d = .ref a ∧ m a = some (.lst xs) := by
  cases d with
  | lis ys => left; cases h; rfl
  | ref a =>
    right
    refine ⟨a, rfl, ?_⟩
    simp only [lisOf] at h
    cases q : m a with
    | none => rw [q] at h; cases h
    | some o =>
      rw [q] at h
      cases o with
      | lst ys => cases h; rfl
      | _ => cases h
  | _ => cases h
theorem len_lis {m : Mem} {d : D} {xs : List D} {f : Nat → Prop} (h : lisOf m d = some xs) : lenQ d m f = f xs.length := by
  rcases lis_cases h with rfl | ⟨a, rfl, e⟩
  · rfl
  · simp only [lenQ, e]
theorem ix_lis {m : Mem} {d : D} {xs : List D} {i : Nat} {x : D} {Q : QD} (h : lisOf m d = some xs) (hx : xs[i]? = some x) : dIx TT d (.int (i : Nat)) m Q = Q x m := by
  rcases lis_cases h with rfl | ⟨a, rfl, e⟩
  · simp only [dIx, intQ]; rw [atI_nat hx]; rfl
  · exact ixL e hx
theorem cut_lis {m : Mem} {d : D} {xs : List D} {lo hi : Option Int} {Q : QD} (h : lisOf m d = some xs) : dCut d lo hi m Q = dRef m (.lst (cutD xs lo hi)) Q := by
  rcases lis_cases h with rfl | ⟨a, rfl, e⟩
  · rfl
  · simp only [dCut, e]
theorem cutD3 (zs : List Int) : ∃ ws : List Int, cutD (zs.map D.int) none (some 3) = ws.map D.int := by
  unfold cutD
  exact ⟨_, by rw [← List.map_drop, ← List.map_take]⟩
theorem src_loop {p : Addr} {xs : List D} {d : D} {i : Int} {o2 o5 : Option D} {m : Mem} {Z : Zs} (hp : m p = some (.lst xs))
    (h : ∀ s o4, Z.nx [some d, some (.int i), o2, some (.int s), o4, o5] m) : ∀ (ws : List Int) (s : Int) (o4 : Option D),
    forS (fun m' => m' p = some (.lst xs)) (gN 4) (sAsg (gN 3) (eBin dMod (eB bInt (aCons (eBin dAdd (eBin dMul (eVar 3) (eK (.int 31))) (eBin dMod (eB bInt (aCons (eVar 4) aNil)) (eK (.int 2147483629)))) aNil)) (eK (.int 2147483629)))) Z (ws.map D.int) [some d, some (.int i), o2, some (.int s), o4, o5] m
  | [], s, o4 => ⟨hp, h s o4⟩
  | w :: ws, s, o4 => by
    refine ⟨hp, ?_⟩
    simp only [sNil, sSeq, sExpr, sRet, sRetN, sIf, sBrk, sCont, sAsg, gN, gsNil, gsCons, gT, sSetIx, sSetF, fldQ, sAug, sAugF, sRaise, xs_, zsOf, eK, eVar, eBin, eUn, eChain, eAnd, eOr, eNot, eIf, tOf, bK, tAnd, tOr, tNot, tTru, truK, aNil, aCons, eTup, eLst, dRef, eNewK, eNewT, eCut, oNone, oSome, eB, eM, eCall, eMeth, insQ, eMake, eCallL, eLc, tYesD, wipeD, iSeq, iterQ, noG, iR1, iR2, iZip2, iEn, d1Q, d2Q, lstQ, strQ, intQ, bLen, bIsi, isiQ, tysOf, bList, bTuple, tupQ, bInt, bAbs, bSum, bAll, bAny, isLst, isStr, mAppend, mPop, mExtend, mIndex, mJoin, dIs, dIsNot, dAdd, dSub, dMul, dMod, dFdiv, dPow, dShr, dShl, dNeg, someQ, signQ, oneQ, isSomeQ, dIAdd, eRev, eDisp, pNil, pCons, gsCons, zsS, dI, List.getElem?_cons_zero, List.getElem?_cons_succ, List.set_cons_succ, List.set_cons_zero, List.append_nil]
    exact ⟨mulR (by decide), by decide, by decide, shM_of (src_loop hp h ws _ _)⟩
theorem l__law_source {ds : List D} {m : Mem} {Q : QD} {X : XD} (h : g__law_source ds m Q X) : r__law_source (startD N__law_source.length ds) m (zsS Q X) := by
  obtain ⟨d, i, rfl, ⟨zs, h1, h2, h3⟩, hi, h⟩ := h
  show r__law_source [some d, some (.int (i : Nat)), none, none, none, none] m (zsS Q X)
  have hl := fun f => len_lis (f := f) h1
  have fin : ∀ (m' : Mem) (p : Addr) (a b : Int), Sub m m' → m' p = none → shM (Q (.ref p)) (mup m' p (srcM a b 0)) := fun m' p a b s hp => ⟨mup m p (srcM a b 0), s.up, h p a b 0 (s.none hp)⟩
  -- behind the cell
  have rest : ∀ cell : Int, cell.natAbs < 2 ^ 1048577 → (sSeq (sAsg (gN 3) (eBin dAdd (eBin dMul (eK (.int 1009)) (eVar 1)) (eK (.int 17))))
  (sSeq (sForS (iSeq (eCut (eVar 0) oNone (oSome (eK (.int 3))))) (gN 4)
   (sAsg (gN 3) (eBin dMod (eB bInt (aCons (eBin dAdd (eBin dMul (eVar 3) (eK (.int 31))) (eBin dMod (eB bInt (aCons (eVar 4) aNil)) (eK (.int 2147483629)))) aNil)) (eK (.int 2147483629)))))
  (sSeq (sAsg (gN 3) (eBin dMod (eB bInt (aCons (eBin dAdd (eBin dMul (eVar 3) (eK (.int 31))) (eBin dMod (eB bInt (aCons (eVar 2) aNil)) (eK (.int 2147483587)))) aNil)) (eK (.int 2147483629))))
  (sSeq (sAsg (gN 5) (eB bAbs (aCons (eVar 2) aNil)))
  (sSeq (sIf (tOf (eBin dLt (eVar 5) (eBin dPow (eK (.int 10)) (eK (.int 18)))))
   (sRet (eLst (aCons (eK (.int 0)) (aCons (eVar 3) (aCons (eK (.int 0)) aNil)))))
   sNil)
  (sSeq (sIf (tOf (eBin dGt (eBin dShr (eVar 5) (eK (.int 3000))) (eK (.int 0))))
   (sAsg (gN 5) (eBin dSub (eVar 5) (eBin dShl (eBin dShr (eVar 5) (eK (.int 3000))) (eK (.int 3000)))))
   sNil)
  (sRet (eLst (aCons (eVar 5) (aCons (eVar 3) (aCons (eK (.int 0)) aNil)))))))))))
      [some d, some (.int (i : Nat)), some (.int cell), none, none, none] m (zsS Q X) := by
    intro cell hc
    have hcut := fun Q => cut_lis (lo := none) (hi := some 3) (Q := Q) h1
    obtain ⟨ws, hw⟩ := cutD3 zs
    rw [hw] at hcut
    have h3' : 3 ≤ sizeLine := by rw [sizeLine_eq]; decide
    simp only [sNil, sSeq, sExpr, sRet, sRetN, sIf, sBrk, sCont, sAsg, gN, gsNil, gsCons, gT, sSetIx, sSetF, fldQ, sAug, sAugF, sRaise, xs_, zsOf, eK, eVar, eBin, eUn, eChain, eAnd, eOr, eNot, eIf, tOf, bK, tAnd, tOr, tNot, tTru, truK, aNil, aCons, eTup, eLst, dRef, eNewK, eNewT, eCut, oNone, oSome, eB, eM, eCall, eMeth, insQ, eMake, eCallL, eLc, tYesD, wipeD, iSeq, iterQ, noG, iR1, iR2, iZip2, iEn, d1Q, d2Q, lstQ, strQ, intQ, bLen, bIsi, isiQ, tysOf, bList, bTuple, tupQ, bInt, bAbs, bSum, bAll, bAny, isLst, isStr, mAppend, mPop, mExtend, mIndex, mJoin, dIs, dIsNot, dAdd, dSub, dMul, dMod, dFdiv, dPow, dShr, dShl, dNeg, someQ, signQ, oneQ, isSomeQ, dIAdd, eRev, eDisp, pNil, pCons, gsCons, zsS, dI, List.getElem?_cons_zero, List.getElem?_cons_succ, List.set_cons_succ, List.set_cons_zero, List.append_nil, sForS, hcut]
    refine ⟨mulL (by decide), fun p hp => ?_⟩
    have hpp : mup m p (.lst (ws.map D.int)) p = some (.lst (ws.map D.int)) := mup_same
    simp only [hpp]
    refine src_loop hpp (fun s o4 => ?_) ws _ _
    simp only [List.getElem?_cons_zero, List.getElem?_cons_succ, List.set_cons_succ, List.set_cons_zero, List.append_nil, lt_int, gt_int]
    refine ⟨mulR (by decide), by decide, by decide, ⟨by decide, by decide, by decide⟩, fun q => ⟨h3', fun p' hp' => fin _ _ _ _ (sub_p hp) hp'⟩, fun q => ⟨by decide, fun q2 => ⟨by decide, ?_, h3', fun p' hp' => fin _ _ _ _ (sub_p hp) hp'⟩, fun q2 => ⟨h3', fun p' hp' => fin _ _ _ _ (sub_p hp) hp'⟩⟩⟩
    refine shl_ok (n := 1048577) (j := 3000) ?_ (by decide)
    have hna : (if cell < 0 then -cell else cell).natAbs = cell.natAbs := by split <;> omega
    generalize hA : (if cell < 0 then -cell else cell) = A at hna
    have hA0 : 0 ≤ A := by rw [← hA]; split <;> omega
    have hle : (A / 2 ^ (3000 : Int).toNat).natAbs ≤ A.natAbs := by
      have h1 := Int.ediv_le_self (2 ^ (3000 : Int).toNat) hA0
      have h2 : 0 ≤ A / 2 ^ (3000 : Int).toNat := Int.ediv_nonneg hA0 (Int.pow_nonneg (by decide))
      generalize A / 2 ^ (3000 : Int).toNat = B at h1 h2 ⊢
      omega
    exact Nat.lt_of_le_of_lt hle (by rw [hna]; exact hc)
  rw [r__law_source, sSeq]
  simp only [sAsg, eIf, tOf, eBin, eB, aCons, aNil, eVar, eK, List.getElem?_cons_zero, List.getElem?_cons_succ, List.set_cons_succ, List.set_cons_zero, List.append_nil, bLen, d1Q, hl, lt_int, bK, List.length_map]
  refine ⟨fun q => ?_, fun q => ?_⟩
  · have q' : i < zs.length := by have := of_decide_eq_true q; omega
    have hx : (zs.map D.int)[i]? = some (.int zs[i]) := by rw [List.getElem?_map, List.getElem?_eq_getElem q']; rfl
    rw [ix_lis h1 hx]
    exact rest _ (h3 _ (List.getElem_mem q'))
  · simp only [dMul, dAdd]
    refine ⟨mulL (by decide), rest _ ?_⟩
    have : (5 * (i : Int) + 3).natAbs < 2 ^ 10 := by omega
    exact Nat.lt_of_lt_of_le this (Nat.pow_le_pow_right (by decide) (by decide))
end L2.EV
set_option maxHeartbeats 1000000
/-! K01L33: the law's leaves. -/
namespace L2.EV
open PySem PySem.Spec PyProof.Rows
theorem Sx.refl {a : Addr} (m : Mem) : Sx a m m := fun _ _ h _ => h
theorem Sx.fresh {a p : Addr} {m m' : Mem} {o : MO} (h : Sx a m m') (hp : m' p = none) : Sx a m (mup m' p o) := fun b u e n => by
  have := h b u e n
  rw [mup_ne (ne_new this hp)]; exact this
theorem Sx.same {a : Addr} {m m' m'' : Mem} (h : Sx a m m') (e : ∀ b, b ≠ a → m'' b = m' b) : Sx a m m'' := fun b u q n => by rw [e b n]; exact h b u q n
theorem Sx.sub {a : Addr} {m m' : Mem} {o : MO} (h : Sx a m m') (e : m' a = some o) : Sub (mup m a o) m' := fun b u q => by
  by_cases n : b = a
  · subst n; rw [mup_same] at q; cases q; exact e
  · rw [mup_ne n] at q; exact h b u q n
theorem Sx.trans {a : Addr} {m m' m'' : Mem} (h : Sx a m m') (k : Sx a m' m'') : Sx a m m'' := fun b u q n => k b u (h b u q n) n
theorem x_pick {a : Addr} {n : Nat} {m : Mem} {Q : QD} {X : XD} (ha : SrcAt m a) (h1 : 0 < n) (h2 : n < 1000) (h : ∀ (v : Nat) m', v < n → SrcAt m' a → (∀ b, b ≠ a → m' b = m b) → Q (dI v) m') : g__law_pick [.ref a, dI n] m Q X :=
  ⟨a, n, rfl, ha, h1, h2, fun v d s c hv => h v _ hv ⟨d, s, c, mup_same⟩ fun b hb => mup_ne hb⟩
theorem zNm.len {z : Str} (h : zNm z) : 1 ≤ z.length ∧ z.length ≤ 3 ∧ zOk z ∧ PyData.strOk z = true := by
  unfold zNm at h
  simp only [namesOk, Bool.and_eq_true, decide_eq_true_eq, List.all_eq_true] at h
  obtain ⟨⟨⟨h1, h2⟩, h3⟩, _⟩ := h
  have ab : ∀ c ∈ abc.cps.toList, isLow c = true := by decide +kernel
  have hz : zOk z := fun c hc => ab c (by have := h3 c hc; simpa using this)
  refine ⟨h1, h2, hz, ?_⟩
  have := strOk_low (l := z.cps.toList) hz
  simpa using this
theorem len_str {z : Str} {m : Mem} {f : Nat → Prop} (h : z.length ≤ 3) : lenQ (.str z) m f = f z.length := by
  simp only [lenQ]
  rw [show (z.length ≤ sizeLine) = True from eq_true (by rw [sizeLine_eq]; omega), true_and]
theorem ix_str {z : Str} {v : Nat} {m : Mem} {Q : QD} (h : z.length ≤ 3) (hv : v < z.length) : ∃ c, c ∈ z.cps.toList ∧ dIx TT (.str z) (dI v) m Q = Q (.str ⟨#[c]⟩) m := by
  have el : z.cps.toList.length = z.length := by rw [Array.length_toList]; rfl
  have hlt : v < z.cps.toList.length := by omega
  exact ⟨z.cps.toList[v], List.getElem_mem _, ixT (by rw [sizeLine_eq]; omega) (List.getElem?_eq_getElem hlt)⟩
theorem term_sg {z : Str} {c : Nat} (h : c ∈ z.cps.toList) : termOk z (.str ⟨#[c]⟩) = true := by
  have e1 : (⟨#[c]⟩ : Str).length = 1 := rfl
  simp only [termOk, e1, Bool.or_eq_true, Bool.and_eq_true]
  exact .inr ⟨rfl, by simpa using h⟩
theorem term_nil {z : Str} : termOk z (.str "nil") = true := by simp [termOk]
theorem menu_get {z : Str} {v : Nat} (hv : v < (signs z ++ [D.str "nil"]).length) : ∃ t, (signs z ++ [D.str "nil"])[v]? = some (.str t) ∧ termOk z (.str t) = true := by
  rw [List.getElem?_eq_getElem hv]
  have hm := List.getElem_mem hv
  generalize (signs z ++ [D.str "nil"])[v] = x at hm
  rcases List.mem_append.mp hm with hm | hm
  · obtain ⟨c, hc, rfl⟩ := List.mem_map.mp hm
    exact ⟨_, rfl, term_sg hc⟩
  · have := List.mem_singleton.mp hm; subst this
    exact ⟨_, rfl, term_nil⟩
theorem leaf_al {z w : Str} (h : w ∈ aloneL) : leafV z [.inr w] := fun _ => .al h
theorem leaf_re {z w t u : Str} (h : w ∈ relL) (ht : termOk z (.str t) = true) (hu : termOk z (.str u) = true) : leafV z [.inr w, .inr t, .inr u] := fun _ => .re h ht hu
theorem leaf_ho {z t : Str} (ht : termOk z (.str t) = true) : leafV z [.inr "holds", .inr t] := fun _ => .ho ht
/-- list(letters) + ["nil"] -/
theorem x_menu {z : Str} {a : Addr} {m : Mem} {e : Sl} {Q : QD} {X : XD} (hz : z.length ≤ 3) (he : e[1]? = some (some (.str z))) (h : ∀ p m', Sx a m m' → (∀ b, b = a → m' b = m b ∨ m b = none) → m' p = some (.lst (signs z ++ [.str "nil"])) → Q (.ref p) m') :
    eBin dAdd (eB bList (aCons (eVar 1) aNil)) (eLst (aCons (eK (.str "nil")) aNil)) e m Q X := by
  have h3 : 1 ≤ sizeLine := by rw [sizeLine_eq]; decide
  have hz' : z.length ≤ sizeLine := by rw [sizeLine_eq]; omega
  simp only [eBin, eB, eLst, aCons, aNil, eVar, eK, he, bList, d1Q, dRef]
  refine ⟨hz', fun p1 hp1 => ⟨(by show 1 ≤ _; exact h3), fun p2 hp2 => ?_⟩⟩
  have n12 : p1 ≠ p2 := ne_new mup_same hp2
  have el : (signs z).length = z.length := by unfold signs; rw [List.length_map, Array.length_toList]; rfl
  simp only [dAdd]
  rw [mup_ne n12, mup_same, mup_same]
  refine ⟨by rw [el, sizeLine_eq, List.length_singleton]; omega, fun p3 hp3 => ?_⟩
  have hp2' : m p2 = none := by rw [mup_ne n12.symm] at hp2; exact hp2
  refine h p3 _ (((Sx.refl m).fresh hp1).fresh hp2 |>.fresh hp3) (fun b hb => ?_) mup_same
  cases q : m b with
  | none => exact .inr rfl
  | some o =>
    left
    have e1 : mup m p1 (.lst (signs z)) b = some o := by rw [mup_ne (ne_new q hp1)]; exact q
    have e2 : mup (mup m p1 (.lst (signs z))) p2 (.lst [.str "nil"]) b = some o := by rw [mup_ne (ne_new e1 hp2)]; exact e1
    rw [mup_ne (ne_new e2 hp3)]; exact e2
/-- a literal list, one of it -/
theorem x_of {xs : List D} {as : EA} {a : Addr} {n : Nat} {e : Sl} {m : Mem} {Q : QD} {X : XD} (ha : SrcAt m a) (h1 : xs.length = n) (h0 : 0 < n) (h2 : n < 1000) (has : ∀ m Q, as e m Q X = Q xs m)
    {i : Nat} (he : e[i]? = some (some (.ref a))) (h : ∀ (v : Nat) x m', v < n → xs[v]? = some x → Sx a m m' → SrcAt m' a → Q x m') :
    eBin (dIx TT) (eLst as) (eCall g__law_pick [] (aCons (eVar i) (aCons (eK (dI n)) aNil))) e m Q X := by
  simp only [eBin, eLst, eCall, has, dRef, aCons, aNil, eVar, eK, he, List.getElem?_cons_zero, List.getElem?_cons_succ, List.set_cons_succ, List.set_cons_zero, List.append_nil]
  refine ⟨by rw [h1, sizeLine_eq]; omega, fun p hp => ?_⟩
  have ha' : SrcAt (mup m p (.lst xs)) a := by
    obtain ⟨d, s, c, e1⟩ := ha
    exact ⟨d, s, c, by rw [mup_ne (ne_new e1 hp)]; exact e1⟩
  have pa : p ≠ a := by
    obtain ⟨d, s, c, e1⟩ := ha
    exact ne_new' e1 hp
  refine x_pick ha' h0 h2 fun v m' hv ha2 same => ?_
  have hv' : v < xs.length := by omega
  have hx : xs[v]? = some xs[v] := List.getElem?_eq_getElem hv'
  show dIx TT (.ref p) (.int (v : Nat)) m' Q
  rw [ixL (show m' p = some (.lst xs) by rw [same p pa, mup_same]) hx]
  exact h v _ m' hv hx (((Sx.refl m).fresh hp).same same) ha2
theorem SrcAt.keep {m m' : Mem} {a : Addr} (h : SrcAt m a) (e : m' a = m a ∨ m a = none) : SrcAt m' a := by
  obtain ⟨d, s, c, q⟩ := h
  rcases e with e | e
  · exact ⟨d, s, c, by rw [e]; exact q⟩
  · rw [e] at q; cases q
theorem Sx.fin {a : Addr} {m m' : Mem} {P : Mem → Prop} (S : Sx a m m') (ha : SrcAt m' a) (h : ∀ d s c, P (mup m a (srcM d s c))) : shM P m' := by
  obtain ⟨d, s, c, q⟩ := ha
  exact ⟨_, S.sub q, h d s c⟩
theorem src_ne {m : Mem} {a p : Addr} {xs : List D} (ha : SrcAt m a) (h : m p = some (.lst xs)) {t : Str} (ht : .str t ∈ xs) : p ≠ a := fun e => by
  obtain ⟨d, s, c, q⟩ := ha
  rw [e, q] at h
  have := MO.lst.inj (Option.some.inj h)
  rw [← this] at ht
  simp at ht
theorem l__law_exact {ds : List D} {m : Mem} {Q : QD} {X : XD} (h : g__law_exact ds m Q X) : r__law_exact (startD N__law_exact.length ds) m (zsS Q X) := by
  obtain ⟨a, z, rfl, ha, hz, h⟩ := h
  obtain ⟨z1, z2, z3, z4⟩ := hz.len
  show r__law_exact [some (.ref a), some (.str z), none, none, none, none] m (zsS Q X)
  rw [r__law_exact, sSeq]
  simp only [sAsg, eCall, aCons, aNil, eB, bLen, d1Q, len_str z2, eVar, eBin, gN, List.getElem?_cons_zero, List.getElem?_cons_succ, List.set_cons_succ, List.set_cons_zero, List.append_nil]
  refine x_pick ha z1 (by omega) fun v m1 hv ha1 s1 => ?_
  obtain ⟨c, hc, e⟩ := ix_str (z := z) (v := v) (m := m1) z2 hv
  rw [e]
  rw [sSeq, sAsg]
  refine x_menu (a := a) z2 rfl fun p m2 S2 k2 hp => ?_
  have ha2 := ha1.keep (k2 a rfl)
  have S02 : Sx a m m2 := ((Sx.refl m).same s1).trans S2
  simp only [gN, List.getElem?_cons_zero, List.getElem?_cons_succ, List.set_cons_succ, List.set_cons_zero, List.append_nil]
  rw [sSeq]
  have el : (signs z ++ [D.str "nil"]).length = z.length + 1 := by
    rw [List.length_append]; unfold signs; rw [List.length_map, Array.length_toList]; rfl
  simp only [sAsg, eCall, aCons, aNil, eB, bLen, d1Q, lenQ, hp, eVar, eBin, gN, List.getElem?_cons_zero, List.getElem?_cons_succ, List.set_cons_succ, List.set_cons_zero, List.append_nil]
  rw [el]
  refine x_pick ha2 (Nat.succ_pos _) (by omega) fun v2 m3 hv2 ha3 s3 => ?_
  have pa : p ≠ a := src_ne ha2 hp (t := "nil") (by simp)
  obtain ⟨t, ht, htt⟩ := menu_get (z := z) (v := v2) (by rw [el]; exact hv2)
  show dIx TT (.ref p) (.int (v2 : Nat)) m3 _
  rw [ixL (show m3 p = _ by rw [s3 p pa]; exact hp) ht]
  rw [sSeq, sAsg]
  refine x_of (a := a) (n := 7) (xs := [.str "one", .str "row", .str "one", .str "row", .str "bare", .str "one", .str "row"]) (i := 0) ha3 rfl (by decide) (by decide) (fun _ _ => rfl) rfl fun v3 x m4 hv3 hx S4 ha4 => ?_
  have S04 : Sx a m m4 := (S02.same s3).trans S4
  have hx' : ∃ w : Str, x = .str w ∧ (w = "bare" ∨ w ∈ relL) ∧ PyData.strOk w = true := by
    have hw : ∀ w ∈ (["one", "row", "one", "row", "bare", "one", "row"] : List Str), (w = "bare" ∨ w ∈ relL) ∧ PyData.strOk w = true := by decide +kernel
    have hm : x ∈ (["one", "row", "one", "row", "bare", "one", "row"] : List Str).map D.str := List.mem_of_getElem? hx
    obtain ⟨w, hw', rfl⟩ := List.mem_map.mp hm
    exact ⟨w, rfl, hw w hw'⟩
  obtain ⟨w, rfl, hw, hs⟩ := hx'
  have sb : PyData.strOk "bare" = true := by decide +kernel
  have h3 : 3 ≤ sizeLine := by rw [sizeLine_eq]; decide
  simp only [sRet, eIf, tOf, eBin, eTup, aCons, aNil, eVar, eK, List.getElem?_cons_zero, List.getElem?_cons_succ, List.set_cons_succ, List.set_cons_zero, List.append_nil, gN, dEq_str hs sb, bK, zsS]
  refine ⟨fun q => ⟨(by show 1 ≤ _; omega), S04.fin ha4 fun d s c => h [.inr "bare"] d s c (leaf_al (by decide +kernel))⟩, fun q => ⟨(by show 3 ≤ _; omega), S04.fin ha4 fun d s c' => h [.inr w, .inr ⟨#[c]⟩, .inr t] d s c' (leaf_re ?_ (term_sg hc) htt)⟩⟩
  rcases hw with rfl | hw
  · rw [decide_eq_true rfl] at q; cases q
  · exact hw
theorem l__law_loose {ds : List D} {m : Mem} {Q : QD} {X : XD} (h : g__law_loose ds m Q X) : r__law_loose (startD N__law_loose.length ds) m (zsS Q X) := by
  obtain ⟨a, z, rfl, ha, hz, h⟩ := h
  obtain ⟨z1, z2, z3, z4⟩ := hz.len
  show r__law_loose [some (.ref a), some (.str z), none, none, none, none, none] m (zsS Q X)
  have el : (signs z ++ [D.str "nil"]).length = z.length + 1 := by
    rw [List.length_append]; unfold signs; rw [List.length_map, Array.length_toList]; rfl
  rw [r__law_loose, sSeq, sAsg]
  refine x_menu (a := a) z2 rfl fun p m1 S1 k1 hp => ?_
  have ha1 := ha.keep (k1 a rfl)
  have pa : p ≠ a := src_ne ha1 hp (t := "nil") (by simp)
  simp only [gN, List.getElem?_cons_zero, List.getElem?_cons_succ, List.set_cons_succ, List.set_cons_zero, List.append_nil]
  rw [sSeq]
  simp only [sAsg, eCall, aCons, aNil, eB, bLen, d1Q, lenQ, hp, eVar, eBin, gN, List.getElem?_cons_zero, List.getElem?_cons_succ, List.set_cons_succ, List.set_cons_zero, List.append_nil]
  rw [el]
  refine x_pick ha1 (Nat.succ_pos _) (by omega) fun v2 m2 hv2 ha2 s2 => ?_
  obtain ⟨t, ht, htt⟩ := menu_get (z := z) (v := v2) (by rw [el]; exact hv2)
  have hp2 : m2 p = some (.lst (signs z ++ [.str "nil"])) := by rw [s2 p pa]; exact hp
  show dIx TT (.ref p) (.int (v2 : Nat)) m2 _
  rw [ixL hp2 ht]
  rw [sSeq]
  simp only [sAsg, eCall, aCons, aNil, eB, bLen, d1Q, lenQ, hp2, eVar, eBin, gN, List.getElem?_cons_zero, List.getElem?_cons_succ, List.set_cons_succ, List.set_cons_zero, List.append_nil]
  rw [el]
  refine x_pick ha2 (Nat.succ_pos _) (by omega) fun v3 m3 hv3 ha3 s3 => ?_
  obtain ⟨u, hu, huu⟩ := menu_get (z := z) (v := v3) (by rw [el]; exact hv3)
  have hp3 : m3 p = some (.lst (signs z ++ [.str "nil"])) := by rw [s3 p pa]; exact hp2
  show dIx TT (.ref p) (.int (v3 : Nat)) m3 _
  rw [ixL hp3 hu]
  have S3 : Sx a m m3 := (S1.same s2).same s3
  have h12 : 12 ≤ sizeLine := by rw [sizeLine_eq]; decide
  rw [sSeq]
  simp only [sAsg, eLst, aCons, aNil, eK, dRef, gN, List.getElem?_cons_zero, List.getElem?_cons_succ, List.set_cons_succ, List.set_cons_zero, List.append_nil]
  refine ⟨h12, fun p4 hp4 => ?_⟩
  have S4 := S3.fresh (o := .lst [.str "same", .str "holds", .str "link", .str "way", .str "tied", .str "one", .str "row", .str "bare", .str "yes", .str "no", .str "holds", .str "link"]) hp4
  have ha4 : SrcAt (mup m3 p4 (.lst [.str "same", .str "holds", .str "link", .str "way", .str "tied", .str "one", .str "row", .str "bare", .str "yes", .str "no", .str "holds", .str "link"])) a := by
    obtain ⟨d, s, c, q⟩ := ha3
    exact ⟨d, s, c, by rw [mup_ne (ne_new q hp4)]; exact q⟩
  have q4 : mup m3 p4 (.lst [.str "same", .str "holds", .str "link", .str "way", .str "tied", .str "one", .str "row", .str "bare", .str "yes", .str "no", .str "holds", .str "link"]) p4 = some (.lst ((["same", "holds", "link", "way", "tied", "one", "row", "bare", "yes", "no", "holds", "link"] : List Str).map D.str)) := mup_same
  have p4a : p4 ≠ a := by
    obtain ⟨d, s, c, q⟩ := ha3
    exact ne_new' q hp4
  generalize mup m3 p4 (.lst [.str "same", .str "holds", .str "link", .str "way", .str "tied", .str "one", .str "row", .str "bare", .str "yes", .str "no", .str "holds", .str "link"]) = m4 at S4 ha4 q4 ⊢
  rw [sSeq]
  simp only [sAsg, eCall, aCons, aNil, eB, bLen, d1Q, lenQ, q4, eVar, eBin, gN, List.getElem?_cons_zero, List.getElem?_cons_succ, List.set_cons_succ, List.set_cons_zero, List.append_nil]
  refine x_pick (n := 12) ha4 (by decide) (by decide) fun v5 m5 hv5 ha5 s5 => ?_
  have S5 := S4.same s5
  have hw0 : ∀ w ∈ (["same", "holds", "link", "way", "tied", "one", "row", "bare", "yes", "no", "holds", "link"] : List Str), (w ∈ aloneL ∨ w = "holds" ∨ w ∈ relL) ∧ PyData.strOk w = true ∧ (w ∈ relL → w ∉ aloneL ∧ w ≠ "holds") := by decide +kernel
  have hv5' : v5 < (["same", "holds", "link", "way", "tied", "one", "row", "bare", "yes", "no", "holds", "link"] : List Str).length := hv5
  have hx : ((["same", "holds", "link", "way", "tied", "one", "row", "bare", "yes", "no", "holds", "link"] : List Str).map D.str)[v5]? = some (.str ((["same", "holds", "link", "way", "tied", "one", "row", "bare", "yes", "no", "holds", "link"] : List Str)[v5]'hv5')) := by rw [List.getElem?_map, List.getElem?_eq_getElem hv5']; rfl
  have hwm := hw0 _ (List.getElem_mem hv5')
  generalize (["same", "holds", "link", "way", "tied", "one", "row", "bare", "yes", "no", "holds", "link"] : List Str)[v5]'hv5' = w at hx hwm
  obtain ⟨hw1, hws, hw2⟩ := hwm
  show dIx TT (.ref p4) (.int (v5 : Nat)) m5 _
  rw [ixL (show m5 p4 = _ by rw [s5 p4 p4a]; exact q4) hx]
  have sh : PyData.strOk "holds" = true := by decide +kernel
  have hin : ∀ (m : Mem) (Q : QD), dIn TT (.str w) (.tup [.str "yes", .str "no", .str "bare"]) m Q = Q (.bl (decide (w ∈ aloneL))) m := fun m Q => by
    have e0 : ([.str "yes", .str "no", .str "bare"] : List D) = (["yes", "no", "bare"] : List Str).map D.str := rfl
    have hr : ∀ j ∈ (["yes", "no", "bare"] : List Str), PyData.strOk j = true := by decide +kernel
    rw [e0]
    simp only [dIn, dInB]
    have e1 : inOk (.str w) ((["yes", "no", "bare"] : List Str).map D.str) := ⟨⟨hws, by show 0 ≤ 60; decide⟩, plains_strs hr, by rw [deps_strs]; decide⟩
    have e2 : inD (.str w) ((["yes", "no", "bare"] : List Str).map D.str) = decide (w ∈ aloneL) := by
      rw [Bool.eq_iff_iff, decide_eq_true_iff]
      simp only [inD, List.any_map, List.any_eq_true, Function.comp, eqD, beq_iff_eq]
      exact ⟨fun ⟨x, hx, e⟩ => e ▸ hx, fun hx => ⟨w, hx, rfl⟩⟩
    simp only [e1, true_and, e2]
  have h3 : 3 ≤ sizeLine := by rw [sizeLine_eq]; decide
  simp only [sSeq, sIf, sNil, sRet, eIf, tOf, eBin, eTup, aCons, aNil, eVar, eK, List.getElem?_cons_zero, List.getElem?_cons_succ, List.set_cons_succ, List.set_cons_zero, List.append_nil, gN, hin, dEq_str hws sh, bK, zsS]
  refine ⟨(by show 3 ≤ _; exact h3), fun q => ⟨(by show 1 ≤ _; omega), S5.fin ha5 fun d s c => h [.inr w] d s c (leaf_al (of_decide_eq_true q))⟩, fun q => ⟨fun q2 => ⟨(by show 2 ≤ _; omega), S5.fin ha5 fun d s c => ?_⟩, fun q2 => ⟨(by show 3 ≤ _; omega), S5.fin ha5 fun d s c => h [.inr w, .inr t, .inr u] d s c (leaf_re ?_ htt huu)⟩⟩⟩
  · have := of_decide_eq_true q2; subst this
    exact h [.inr "holds", .inr t] d s c (leaf_ho htt)
  · rcases hw1 with hw1 | hw1 | hw1
    · rw [decide_eq_true hw1] at q; cases q
    · rw [decide_eq_true hw1] at q2; cases q2
    · exact hw1
end L2.EV
set_option maxHeartbeats 1000000
/-! K01L34: the law's shapes. -/
namespace L2.EV
open PySem PySem.Spec PyProof.Rows
theorem plains_ints (is : List Int) : plains (is.map D.int) = true := by
  induction is with
  | nil => rfl
  | cons i is ih => simp only [List.map_cons, plains, plain, ih, Bool.true_and]
theorem deps_ints (is : List Int) : deps (is.map D.int) = 0 := by
  induction is with
  | nil => rfl
  | cons i is ih => simp only [List.map_cons, deps, dep, ih]; rfl
theorem in_ints {i : Int} {is : List Int} {m : Mem} {Q : QD} : dIn TT (.int i) (.tup (is.map D.int)) m Q = Q (.bl (decide (i ∈ is))) m := by
  simp only [dIn, dInB]
  have e1 : inOk (.int i) (is.map D.int) := ⟨⟨rfl, by show 0 ≤ 60; decide⟩, plains_ints is, by rw [deps_ints]; decide⟩
  have e2 : inD (.int i) (is.map D.int) = decide (i ∈ is) := by
    rw [Bool.eq_iff_iff, decide_eq_true_iff]
    simp only [inD, List.any_map, List.any_eq_true, Function.comp, eqD, beq_iff_eq]
    exact ⟨fun ⟨x, hx, e⟩ => e ▸ hx, fun hx => ⟨i, hx, rfl⟩⟩
  simp only [e1, true_and, e2]
theorem inB_strs {w : Str} {ws : List Str} {m : Mem} {P : Bool → Prop} (hw : PyData.strOk w = true) (hr : ∀ j ∈ ws, PyData.strOk j = true) : dInB TT (.str w) (.tup (ws.map D.str)) m P = P (decide (w ∈ ws)) := by
  simp only [dInB]
  have e1 : inOk (.str w) (ws.map D.str) := ⟨⟨hw, by show 0 ≤ 60; decide⟩, plains_strs hr, by rw [deps_strs]; decide⟩
  have e2 : inD (.str w) (ws.map D.str) = decide (w ∈ ws) := by
    rw [Bool.eq_iff_iff, decide_eq_true_iff]
    simp only [inD, List.any_map, List.any_eq_true, Function.comp, eqD, beq_iff_eq]
    exact ⟨fun ⟨x, hx, e⟩ => e ▸ hx, fun hx => ⟨w, hx, rfl⟩⟩
  simp only [e1, true_and, e2]
theorem sheet_app {z : Str} {sh : List (List Key)} {ks : List Key} (h : SheetV z sh) (k : NodeV z sh.length ks) : SheetV z (sh ++ [ks]) := fun i x e => by
  by_cases q : i < sh.length
  · rw [List.getElem?_append_left q] at e; exact h i x e
  · rw [List.getElem?_append_right (by omega)] at e
    by_cases q2 : i - sh.length = 0
    · rw [q2] at e
      have : i = sh.length := by omega
      rw [this]
      cases e; exact k
    · rw [List.getElem?_eq_none (by simp; omega)] at e; cases e
theorem sheet_nil {z : Str} : SheetV z [] := fun i x e => by simp at e
theorem x_leaf {a : Addr} {z : Str} {m : Mem} {Q : QD} {X : XD} (ha : SrcAt m a) (hz : zNm z) (h : ∀ ks m', leafV z ks → SrcAt m' a → (∀ b, b ≠ a → m' b = m b) → Q (dN ks) m') : g__law_exact [.ref a, .str z] m Q X :=
  ⟨a, z, rfl, ha, hz, fun ks d s c hv => h ks _ hv ⟨d, s, c, mup_same⟩ fun b hb => mup_ne hb⟩
theorem SrcAt.fresh {m : Mem} {a p : Addr} {o : MO} (h : SrcAt m a) (hp : m p = none) : SrcAt (mup m p o) a ∧ p ≠ a := by
  obtain ⟨d, s, c, q⟩ := h
  exact ⟨⟨d, s, c, by rw [mup_ne (ne_new q hp)]; exact q⟩, ne_new' q hp⟩
theorem Sx.back {a p : Addr} {m m' : Mem} (h : Sx a m m') (hp : m' p = none) (n : p ≠ a) : m p = none := by
  cases q : m p with
  | none => rfl
  | some o => rw [h p o q n] at hp; cases hp
theorem Sx.fin2 {a p : Addr} {m m' : Mem} {o : MO} {P : Mem → Prop} (S : Sx a m m') (ha : SrcAt m' a) (hp : m' p = some o) (n : p ≠ a) (h : ∀ d s c, P (mup (mup m a (srcM d s c)) p o)) : shM P m' := by
  obtain ⟨d, s, c, q⟩ := ha
  refine ⟨_, fun b u e => ?_, h d s c⟩
  by_cases nb : b = p
  · subst nb; rw [mup_same] at e; cases e; exact hp
  · rw [mup_ne nb] at e; exact S.sub q b u e
/-- a list grown by a leaf and a node -/
theorem x_grow {p a : Addr} {z : Str} {sh : List (List Key)} {m : Mem} {e : Sl} {Q : QD} {X : XD} {as : EA} {node : List Key} (he0 : e[0]? = some (some (.ref a))) (he1 : e[1]? = some (some (.str z))) (he3 : e[3]? = some (some (.ref p))) (hp : m p = some (lstN sh)) (ha : SrcAt m a) (pa : p ≠ a) (hz : zNm z)
    (has : ∀ m Q, as e m Q X = Q (node.map dK) m) (hn : node.length ≤ 3) (hs : sh.length ≤ 10) (h : ∀ ks p' m', leafV z ks → Sx a m m' → (∀ b, m b = none → m' b = none ∨ True) → SrcAt m' a → m' p' = some (lstN (sh ++ [ks, node])) → p' ≠ a → m p' = none → Q (.ref p') m') :
    eBin dAdd (eVar 3) (eLst (aCons (eCall g__law_exact [] (aCons (eVar 0) (aCons (eVar 1) aNil))) (aCons (eTup as) aNil))) e m Q X := by
  simp only [eBin, eLst, eCall, eTup, aCons, aNil, eVar, he0, he1, he3, List.append_nil]
  refine x_leaf ha hz fun ks m1 hv ha1 s1 => ?_
  rw [has]
  refine ⟨by rw [List.length_map, sizeLine_eq]; omega, ?_⟩
  have h2 : 2 ≤ sizeLine := by rw [sizeLine_eq]; decide
  refine ⟨h2, ?_⟩
  simp only [dRef]
  intro p1 hp1
  obtain ⟨ha2, n1⟩ := ha1.fresh (o := .lst [dN ks, .tup (node.map dK)]) hp1
  have hp' : m1 p = some (lstN sh) := by rw [s1 p pa]; exact hp
  have n2 : p ≠ p1 := ne_new hp' hp1
  have eq1 : mup m1 p1 (.lst [dN ks, .tup (node.map dK)]) p = some (lstN sh) := by rw [mup_ne n2]; exact hp'
  simp only [dAdd, dRef]
  rw [eq1, mup_same]
  simp only [lstN]
  refine ⟨by rw [List.length_map, sizeLine_eq]; simp only [List.length_cons, List.length_nil]; omega, fun p2 hp2 => ?_⟩
  have e2 : (sh.map dN ++ [dN ks, D.tup (node.map dK)]) = (sh ++ [ks, node]).map dN := by rw [List.map_append]; rfl
  rw [e2]
  obtain ⟨ha3, n3⟩ := ha2.fresh (o := .lst ((sh ++ [ks, node]).map dN)) hp2
  have S : Sx a m (mup m1 p1 (.lst [dN ks, .tup (node.map dK)])) := ((Sx.refl m).same s1).fresh hp1
  exact h ks p2 _ hv (S.fresh hp2) (fun _ _ => .inr trivial) ha3 mup_same n3 (S.back hp2 n3)
def rShape2 : ES := (sSeq (sIf (tOf (eBin dEq (eVar 2) (eK (.int 5))))
   (sAsg (gN 3) (eBin dAdd (eVar 3) (eLst (aCons (eCall g__law_exact [] (aCons (eVar 0) (aCons (eVar 1) aNil))) (aCons (eTup (aCons (eK (.str "or")) (aCons (eK (.int 2)) (aCons (eK (.int 3)) aNil)))) aNil)))))
   sNil)
  (sSeq (sIf (tOf (eBin dEq (eVar 2) (eK (.int 6))))
   (sAsg (gN 3) (eBin dAdd (eVar 3) (eLst (aCons (eCall g__law_loose [] (aCons (eVar 0) (aCons (eVar 1) aNil))) (aCons (eTup (aCons (eK (.str "and")) (aCons (eK (.int 2)) (aCons (eK (.int 3)) aNil)))) aNil)))))
   sNil)
  (sRet (eVar 3))))
theorem l__law_shape {ds : List D} {m : Mem} {Q : QD} {X : XD} (h : g__law_shape ds m Q X) : r__law_shape (startD N__law_shape.length ds) m (zsS Q X) := by
  obtain ⟨a, z, rfl, ha, hz, h⟩ := h
  show r__law_shape [some (.ref a), some (.str z), none, none, none] m (zsS Q X)
  have h5 : 5 ≤ sizeLine := by rw [sizeLine_eq]; decide
  obtain ⟨z1, z2, z3, z4⟩ := hz.len
  rw [r__law_shape, sSeq]
  simp only [sAsg, eCall, aCons, aNil, eVar, eK, gN, List.getElem?_cons_zero, List.getElem?_cons_succ, List.set_cons_succ, List.set_cons_zero, List.append_nil]
  refine x_pick (n := 8) ha (by decide) (by decide) fun way m1 hw ha1 s1 => ?_
  rw [sSeq]
  simp only [sAsg, eLst, eCall, aCons, aNil, eVar, eK, gN, List.getElem?_cons_zero, List.getElem?_cons_succ, List.set_cons_succ, List.set_cons_zero, List.append_nil, dRef]
  refine x_leaf ha1 hz fun k1 m2 v1 ha2 s2 => ⟨(by show 1 ≤ _; omega), fun p1 hp1 => ?_⟩
  have S2 : Sx a m m2 := ((Sx.refl m).same s1).same s2
  obtain ⟨ha3, n1⟩ := ha2.fresh (o := .lst [dN k1]) hp1
  have f1 : m p1 = none := S2.back hp1 n1
  have S3 : Sx a m (mup m2 p1 (.lst [dN k1])) := S2.fresh hp1
  have q3 : mup m2 p1 (.lst [dN k1]) p1 = some (lstN [k1]) := mup_same
  have V1 : SheetV z [k1] := sheet_app (sh := []) sheet_nil (v1 0)
  generalize mup m2 p1 (.lst [dN k1]) = m3 at ha3 S3 q3 ⊢
  -- the end
  have fin : ∀ (p : Addr) (sh : List (List Key)) (m' : Mem) (o4 : Option D), m' p = some (lstN sh) → SrcAt m' a → p ≠ a → m p = none → Sx a m m' → SheetV z sh → 1 ≤ sh.length → sh.length ≤ 5 → sRet (eVar 3) [some (.ref a), some (.str z), some (dI way), some (.ref p), o4] m' (zsS Q X) := by
    intro p sh m' o4 hp ha' n f S V l1 l2
    simp only [sRet, eVar, List.getElem?_cons_zero, List.getElem?_cons_succ, List.set_cons_succ, List.set_cons_zero, List.append_nil, zsS]
    exact S.fin2 ha' hp n fun d s c => h p sh d s c f ⟨V, l1, l2⟩
  have e23 : ([.int 2, .int 3, .int 4, .int 5, .int 6] : List D) = ([2, 3, 4, 5, 6] : List Int).map D.int := rfl
  have s0 : ∀ w ∈ (["or", "apart", "and"] : List Str), w ∈ joinL := by decide +kernel
  rw [sSeq]
  simp only [sIf, tOf, eBin, eTup, aCons, aNil, eVar, eK, List.getElem?_cons_zero, List.getElem?_cons_succ, List.set_cons_succ, List.set_cons_zero, List.append_nil, List.length_cons, List.length_nil]
  refine ⟨h5, ?_⟩
  rw [e23]
  show dIn TT (.int (way : Nat)) _ _ _
  rw [in_ints]
  simp only [bK]
  -- the second part
  have second : ∀ (p : Addr) (sh : List (List Key)) (m' : Mem) (o4 : Option D), m' p = some (lstN sh) → SrcAt m' a → p ≠ a → m p = none → Sx a m m' → SheetV z sh → (sh.length = 1 ∧ ¬ way = 5 ∧ ¬ way = 6 ∨ sh.length = 3) → rShape2 [some (.ref a), some (.str z), some (dI way), some (.ref p), o4] m' (zsS Q X) := by
    intro p sh m' o4 hp ha' n f S V l
    rw [rShape2, sSeq]
    simp only [sIf, tOf, eBin, eVar, eK, List.getElem?_cons_zero, List.getElem?_cons_succ, List.set_cons_succ, List.set_cons_zero, List.append_nil, dI, dEq_int, bK]
    refine ⟨fun q => ?_, fun q => ?_⟩
    · have w5 : way = 5 := by have := of_decide_eq_true q; omega
      have l3 : sh.length = 3 := by omega
      simp only [sAsg]
      refine x_grow (node := [.inr "or", .inl 2, .inl 3]) rfl rfl rfl hp ha' n hz (fun _ _ => rfl) (by decide) (by omega) fun ks p' m'' hv S' _ ha'' hp' n' f' => ?_
      simp only [gN, List.getElem?_cons_zero, List.getElem?_cons_succ, List.set_cons_succ, List.set_cons_zero, List.append_nil, sSeq, sIf, tOf, eBin, eVar, eK, dEq_int, bK]
      rw [decide_eq_false (by omega)]
      refine ⟨fun q => (by cases q), fun _ => ?_⟩
      have V' : SheetV z (sh ++ [ks, [.inr "or", .inl 2, .inl 3]]) := by
        rw [show sh ++ [ks, [.inr "or", .inl 2, .inl 3]] = (sh ++ [ks]) ++ [[.inr "or", .inl 2, .inl 3]] by simp]
        exact sheet_app (sheet_app V (hv _)) (.jn (i := 2) (j := 3) (s0 _ (by simp)) (by simp; omega) (by simp; omega))
      exact fin p' _ m'' o4 hp' ha'' n' (S.back f' n') (S.trans S') V' (by simp) (by simp; omega)
    · have w5 : way ≠ 5 := by have := of_decide_eq_false q; omega
      simp only [sNil, sSeq, sIf, tOf, eBin, eVar, eK, List.getElem?_cons_zero, List.getElem?_cons_succ, List.set_cons_succ, List.set_cons_zero, List.append_nil, dEq_int, bK]
      refine ⟨fun q => ?_, fun q => ?_⟩
      · have w6 : way = 6 := by have := of_decide_eq_true q; omega
        have l3 : sh.length = 3 := by omega
        simp only [sAsg]
        refine x_grow (node := [.inr "and", .inl 2, .inl 3]) rfl rfl rfl hp ha' n hz (fun _ _ => rfl) (by decide) (by omega) fun ks p' m'' hv S' _ ha'' hp' n' f' => ?_
        simp only [gN, List.getElem?_cons_zero, List.getElem?_cons_succ, List.set_cons_succ, List.set_cons_zero, List.append_nil]
        have V' : SheetV z (sh ++ [ks, [.inr "and", .inl 2, .inl 3]]) := by
          rw [show sh ++ [ks, [.inr "and", .inl 2, .inl 3]] = (sh ++ [ks]) ++ [[.inr "and", .inl 2, .inl 3]] by simp]
          exact sheet_app (sheet_app V (hv _)) (.jn (i := 2) (j := 3) (s0 _ (by simp)) (by simp; omega) (by simp; omega))
        exact fin p' _ m'' o4 hp' ha'' n' (S.back f' n') (S.trans S') V' (by simp) (by simp; omega)
      · exact fin p sh m' o4 hp ha' n f S V (by omega) (by omega)
  refine ⟨fun q => ?_, fun q => ?_⟩
  · have both : ∀ w : Str, w ∈ (["or", "apart", "and"] : List Str) → (sAsg (gN 3) (eBin dAdd (eVar 3) (eLst (aCons (eCall g__law_exact [] (aCons (eVar 0) (aCons (eVar 1) aNil))) (aCons (eTup (aCons (eVar 4) (aCons (eK (.int 0)) (aCons (eK (.int 1)) aNil)))) aNil))))) [some (.ref a), some (.str z), some (dI way), some (.ref p1), some (.str w)] m3
        { (zsS Q X) with nx := fun e1 m1 => rShape2 e1 m1 (zsS Q X) } := by
      intro w hw
      simp only [sAsg]
      refine x_grow (node := [.inr w, .inl 0, .inl 1]) rfl rfl rfl q3 ha3 n1 hz (fun _ _ => rfl) (by show 3 ≤ 3; omega) (by show 1 ≤ 10; omega) fun ks p' m'' hv S' _ ha'' hp' n' f' => ?_
      simp only [gN, List.getElem?_cons_zero, List.getElem?_cons_succ, List.set_cons_succ, List.set_cons_zero, List.append_nil]
      have V' : SheetV z ([k1] ++ [ks, [.inr w, .inl 0, .inl 1]]) := by
        rw [show [k1] ++ [ks, [.inr w, .inl 0, .inl 1]] = ([k1] ++ [ks]) ++ [[.inr w, .inl 0, .inl 1]] by simp]
        exact sheet_app (sheet_app V1 (hv _)) (.jn (i := 0) (j := 1) (s0 _ hw) (by simp) (by simp))
      exact second p' _ m'' _ hp' ha'' n' (S3.back f' n') (S3.trans S') V' (.inr rfl)
    rw [sSeq]
    simp only [sAsg, eIf, tOr, tAnd, tOf, eBin, eB, aCons, aNil, eVar, eK, List.getElem?_cons_zero, List.getElem?_cons_succ, List.set_cons_succ, List.set_cons_zero, List.append_nil, bLen, d1Q, len_str z2, dI, dEq_int, lt_int, bK, gN] at both ⊢
    refine ⟨fun q1 => ?_, fun q1 => ?_⟩
    · refine ⟨fun _ => both "or" (by simp), fun q2 => (by cases q2)⟩
    · refine ⟨fun q2 => ⟨fun q3 => both "or" (by simp), fun q3 => both "apart" (by simp)⟩, fun q2 => ⟨fun q3 => (by cases q3), fun q3 => both "apart" (by simp)⟩⟩
  · have w0 : ¬ way = 5 ∧ ¬ way = 6 := by
      have := of_decide_eq_false q
      constructor <;> intro e <;> subst e <;> exact this (by decide)
    exact second p1 [k1] m3 _ q3 ha3 n1 f1 S3 V1 (.inl ⟨rfl, w0⟩)
end L2.EV
set_option maxHeartbeats 1000000
/-! K01L35: the law's listing. -/
namespace L2.EV
open PySem PySem.Spec PyProof.Rows
theorem plains_all {xs : List D} (h : ∀ x ∈ xs, plain x = true) : plains xs = true := by
  induction xs with
  | nil => rfl
  | cons x xs ih => simp only [plains, h x (List.mem_cons_self ..), ih fun y hy => h y (List.mem_cons_of_mem _ hy), Bool.and_self]
theorem deps_all {xs : List D} {n : Nat} (h : ∀ x ∈ xs, dep x ≤ n) : deps xs ≤ n := by
  induction xs with
  | nil => exact Nat.zero_le _
  | cons x xs ih =>
    simp only [deps]
    have := h x (List.mem_cons_self ..)
    have := ih fun y hy => h y (List.mem_cons_of_mem _ hy)
    omega
theorem key_plain {k : Key} (h : ∀ s, k = .inr s → PyData.strOk s = true) : plain (dK k) = true ∧ dep (dK k) = 0 := by
  cases k with
  | inl i => exact ⟨rfl, rfl⟩
  | inr s => exact ⟨h s rfl, rfl⟩
theorem dN_plain {ks : List Key} (h : KOk ks) : plain (dN ks) = true ∧ dep (dN ks) ≤ 1 := by
  refine ⟨plains_all fun x hx => ?_, ?_⟩
  · obtain ⟨k, hk, rfl⟩ := List.mem_map.mp hx
    exact (key_plain (h k hk)).1
  · show 1 + deps (ks.map dK) ≤ 1
    have : deps (ks.map dK) ≤ 0 := deps_all fun x hx => by
      obtain ⟨k, hk, rfl⟩ := List.mem_map.mp hx
      rw [(key_plain (h k hk)).2]; exact Nat.le_refl _
    omega
theorem ns_plain {ns : List (List Key)} (h : NsOk ns) : plains (ns.map dN) = true ∧ deps (ns.map dN) ≤ 1 := by
  refine ⟨plains_all fun x hx => ?_, deps_all fun x hx => ?_⟩
  · obtain ⟨k, hk, rfl⟩ := List.mem_map.mp hx
    exact (dN_plain (h k hk)).1
  · obtain ⟨k, hk, rfl⟩ := List.mem_map.mp hx
    exact (dN_plain (h k hk)).2
theorem eq_key : ∀ (a b : Key), eqD (dK a) (dK b) = decide (a = b)
  | .inl i, .inl j => by simp only [dK, eqD]; by_cases q : i = j <;> simp [q]
  | .inl i, .inr s => by simp [dK, eqD]
  | .inr s, .inl i => by simp [dK, eqD]
  | .inr s, .inr t => by simp only [dK, eqD]; by_cases q : s = t <;> simp [q]
theorem eq_keys : ∀ (a b : List Key), eqDs (a.map dK) (b.map dK) = decide (a = b)
  | [], [] => rfl
  | [], _ :: _ => rfl
  | _ :: _, [] => rfl
  | a :: as, b :: bs => by
    simp only [List.map_cons, eqDs, eq_key, eq_keys as bs]
    by_cases q : a = b <;> by_cases q2 : as = bs <;> simp [q, q2]
theorem eq_dN (a b : List Key) : eqD (dN a) (dN b) = decide (a = b) := eq_keys a b
theorem eq_ns : ∀ (a b : List (List Key)), eqDs (a.map dN) (b.map dN) = decide (a = b)
  | [], [] => rfl
  | [], _ :: _ => rfl
  | _ :: _, [] => rfl
  | a :: as, b :: bs => by
    simp only [List.map_cons, eqDs, eq_dN, eq_ns as bs]
    by_cases q : a = b <;> by_cases q2 : as = bs <;> simp [q, q2]
theorem in_ns {ks : List Key} {ns : List (List Key)} : inD (dN ks) (ns.map dN) = inN ks ns := by
  unfold inD inN
  rw [List.any_map]
  congr 1
  funext x
  exact eq_dN x ks
theorem idx_ns {ks : List Key} : ∀ {ns : List (List Key)}, inN ks ns = true → idxD (dN ks) (ns.map dN) = some (idxOf ks ns)
  | [], h => by cases h
  | x :: ns, h => by
    simp only [List.map_cons, idxD, eq_dN]
    unfold idxOf
    rw [List.findIdx_cons]
    by_cases q : x = ks
    · simp [q]
    · have h' : inN ks ns = true := by
        simp only [inN, List.any_cons, q, decide_false, Bool.false_or] at h
        exact h
      have := idx_ns h'
      simp only [q, decide_false, cond_false]
      rw [if_neg Bool.false_ne_true, this]
      rfl
theorem inOk_ns {ks : List Key} {ns : List (List Key)} (h : KOk ks) (hn : NsOk ns) : inOk (dN ks) (ns.map dN) := by
  obtain ⟨a, b⟩ := dN_plain h
  obtain ⟨c, d⟩ := ns_plain hn
  exact ⟨⟨a, by omega⟩, c, by omega⟩
theorem NsOk.app {ns : List (List Key)} {ks : List Key} (h : NsOk ns) (k : KOk ks) : NsOk (ns ++ [ks]) := fun x hx => by
  rcases List.mem_append.mp hx with hx | hx
  · exact h x hx
  · have := List.mem_singleton.mp hx; subst this; exact k
theorem NsOk.put {ns : List (List Key)} {ks : List Key} (h : NsOk ns) (k : KOk ks) : NsOk (putN ns ks).1 := by
  unfold putN; split
  · exact h
  · exact h.app k
theorem l__law_listed {ds : List D} {m : Mem} {Q : QD} {X : XD} (h : g__law_listed ds m Q X) : r__law_listed (startD N__law_listed.length ds) m (zsS Q X) := by
  obtain ⟨q, ns, ks, rfl, hq, hk, hn, hl, h⟩ := h
  show r__law_listed [some (.ref q), some (dN ks)] m (zsS Q X)
  have e1 : ∀ Q : QD, dNotIn TT (dN ks) (.ref q) m Q = Q (.bl (!inN ks ns)) m := fun Q => by
    simp only [dNotIn, dInB, hq, lstN]
    rw [eq_true (inOk_ns hk hn), true_and, in_ns]
  rw [r__law_listed, sSeq]
  simp only [sIf, tOf, eBin, eVar, List.getElem?_cons_zero, List.getElem?_cons_succ, List.set_cons_succ, List.set_cons_zero, List.append_nil, e1, bK]
  have fin : ∀ (m' : Mem) (ns' : List (List Key)), m' q = some (lstN ns') → NsOk ns' → inN ks ns' = true → putN ns ks = (ns', idxOf ks ns') → Sub (mup m q (lstN ns')) m' → sRet (eM isLst mIndex (eVar 0) (aCons (eVar 1) aNil)) [some (.ref q), some (dN ks)] m' (zsS Q X) := by
    intro m' ns' e hn' hi hp hs
    simp only [sRet, eM, isLst, aCons, aNil, eVar, List.getElem?_cons_zero, List.getElem?_cons_succ, List.set_cons_succ, List.set_cons_zero, List.append_nil, e, lstN, mIndex, lisOf, optQ_some', d1Q]
    refine ⟨trivial, inOk_ns hk hn', ?_⟩
    rw [idx_ns hi]
    rw [hp] at h
    exact ⟨_, hs, h⟩
  refine ⟨fun z => ?_, fun z => ?_⟩
  · have nin : ¬ inN ks ns = true := by intro e; rw [e] at z; cases z
    simp only [sExpr, eM, isLst, aCons, aNil, eVar, List.getElem?_cons_zero, List.getElem?_cons_succ, List.set_cons_succ, List.set_cons_zero, List.append_nil, hq, lstN, mAppend, lstQ, d1Q]
    refine ⟨trivial, by rw [List.length_map, sizeLine_eq]; omega, ?_⟩
    have e2 : ns.map dN ++ [dN ks] = (ns ++ [ks]).map dN := by rw [List.map_append]; rfl
    rw [e2]
    refine fin _ (ns ++ [ks]) mup_same (hn.app hk) (by simp [inN]) ?_ (Sub.refl _)
    unfold putN; rw [if_neg nin, idxOf_new nin]
  · have hin : inN ks ns = true := by simpa using z
    simp only [sNil]
    refine fin m ns hq hn hin (by unfold putN; rw [if_pos hin]) ?_
    rw [mup_self hq]; exact Sub.refl _
theorem x_listed {q : Addr} {ns : List (List Key)} {ks : List Key} {m : Mem} {Q : QD} {X : XD} (hq : m q = some (lstN ns)) (hk : KOk ks) (hn : NsOk ns) (hl : ns.length < 1000000) (h : Q (dI (putN ns ks).2) (mup m q (lstN (putN ns ks).1))) : g__law_listed [.ref q, dN ks] m Q X := ⟨q, ns, ks, rfl, hq, hk, hn, hl, h⟩
/-! ### _law_bound -/
theorem l__law_bound {ds : List D} {m : Mem} {Q : QD} {X : XD} (h : g__law_bound ds m Q X) : r__law_bound (startD N__law_bound.length ds) m (zsS Q X) := by
  obtain ⟨w, r, rfl, hs, h⟩ := h
  show r__law_bound [some (dN (.inr w :: r)), none] m (zsS Q X)
  have ew : dN (.inr w :: r) = .tup (.str w :: r.map dK) := rfl
  have pa : putAll [(.inr "adds", .int 0), (.inr "or", .int 1), (.inr "and", .int 2), (.inr "apart", .int 3), (.inr "not", .int 4)] = ([(.inr "adds", .int 0), (.inr "or", .int 1), (.inr "and", .int 2), (.inr "apart", .int 3), (.inr "not", .int 4)] : List (Key × D)) := by
    have d : ∀ a b : Str, a ≠ b → decide ((.inr a : Key) = .inr b) = false := fun a b n => decide_eq_false (fun e => n (Sum.inr.inj e))
    have n1 : ("adds" : Str) ≠ "or" := by decide +kernel
    have n2 : ("adds" : Str) ≠ "and" := by decide +kernel
    have n3 : ("adds" : Str) ≠ "apart" := by decide +kernel
    have n4 : ("adds" : Str) ≠ "not" := by decide +kernel
    have n5 : ("or" : Str) ≠ "and" := by decide +kernel
    have n6 : ("or" : Str) ≠ "apart" := by decide +kernel
    have n7 : ("or" : Str) ≠ "not" := by decide +kernel
    have n8 : ("and" : Str) ≠ "apart" := by decide +kernel
    have n9 : ("and" : Str) ≠ "not" := by decide +kernel
    have n0 : ("apart" : Str) ≠ "not" := by decide +kernel
    simp [putAll, putD, d _ _ n1, d _ _ n2, d _ _ n3, d _ _ n4, d _ _ n5, d _ _ n6, d _ _ n7, d _ _ n8, d _ _ n9, d _ _ n0, n1, n2, n3, n4, n5, n6, n7, n8, n9, n0]
  have vk : valK ([(.inr "adds", .int 0), (.inr "or", .int 1), (.inr "and", .int 2), (.inr "apart", .int 3), (.inr "not", .int 4)] : List (Key × D)) (.inr w) = (bindOf w).map dI := by
    by_cases q : w ∈ (["adds", "or", "and", "apart", "not"] : List Str)
    · have : ∀ w ∈ (["adds", "or", "and", "apart", "not"] : List Str), ∃ n, bindOf w = some n ∧ n < 5 ∧ (["adds", "or", "and", "apart", "not"] : List Str)[n]? = some w := by decide +kernel
      simp only [List.mem_cons, List.not_mem_nil, or_false] at q
      rcases q with rfl | rfl | rfl | rfl | rfl <;> rfl
    · simp only [List.mem_cons, List.not_mem_nil, or_false, not_or] at q
      obtain ⟨q1, q2, q3, q4, q5⟩ := q
      have e : bindOf w = none := by
        unfold bindOf bindL
        simp [List.lookup, beq_eq_false_iff_ne.mpr q1, beq_eq_false_iff_ne.mpr q2, beq_eq_false_iff_ne.mpr q3, beq_eq_false_iff_ne.mpr q4, beq_eq_false_iff_ne.mpr q5]
      rw [e]
      simp [valK, Ne.symm q1, Ne.symm q2, Ne.symm q3, Ne.symm q4, Ne.symm q5]
  have at0 : atI (D.str w :: r.map dK) 0 = some (.str w) := by rw [show (0 : Int) = ((0 : Nat) : Int) from rfl]; exact atI_nat rfl
  simp only [r__law_bound, sSeq, sAsg, eDisp, pCons, pNil, eVar, eK, List.getElem?_cons_zero, List.getElem?_cons_succ, List.set_cons_succ, List.set_cons_zero, List.append_nil, gN, keyOf, optQ_some', pa]
  intro p hp
  refine ⟨mup_same, by simp, ?_⟩
  rw [mup_mup]
  have hpp : mup m p (.dK [(.inr "adds", .int 0), (.inr "or", .int 1), (.inr "and", .int 2), (.inr "apart", .int 3), (.inr "not", .int 4)]) p = some (.dK [(.inr "adds", .int 0), (.inr "or", .int 1), (.inr "and", .int 2), (.inr "apart", .int 3), (.inr "not", .int 4)]) := mup_same
  have sb := sub_p (o := .dK [(.inr "adds", .int 0), (.inr "or", .int 1), (.inr "and", .int 2), (.inr "apart", .int 3), (.inr "not", .int 4)]) hp
  generalize mup m p (.dK [(.inr "adds", .int 0), (.inr "or", .int 1), (.inr "and", .int 2), (.inr "apart", .int 3), (.inr "not", .int 4)]) = m1 at hpp sb ⊢
  have ix : ∀ Q : QD, dIx TT (dN (.inr w :: r)) (.int 0) m1 Q = Q (.str w) m1 := fun Q => by
    rw [ew]; simp only [dIx, intQ, at0, someQ]
  simp only [sRet, eIf, tOf, eBin, eVar, eK, List.getElem?_cons_zero, List.getElem?_cons_succ, List.set_cons_succ, List.set_cons_zero, List.append_nil, ix, dIn, dInB, hpp, keyOf, Option.map_some, isSomeQ, vk, bK, zsS]
  simp only [dIx, hpp, keyOf, Option.bind_some, vk]
  unfold bnd at h
  refine ⟨fun q => ?_, fun q => ?_⟩
  · cases e : bindOf w with
    | none => rw [e] at q; cases q
    | some n => rw [e] at h; exact shM_sub sb h
  · cases e : bindOf w with
    | none => rw [e] at h; exact shM_sub sb h
    | some n => rw [e] at q; cases q
end L2.EV
set_option maxHeartbeats 1000000
/-! K01L36: the law's listing of a tree. -/
namespace L2.EV
open PySem PySem.Spec PyProof.Rows
theorem tr_at {z : Str} {sh : List (List Key)} (hv : SheetV z sh) {n : Nat} {ks : List Key} (q : sh[n]? = some ks) (h : refsK ks = []) : trOf sh n = .atom ks := by
  have t := trOf_v hv q
  generalize trOf sh n = T at t
  cases t with
  | «at» _ => rfl
  | nt _ => simp [refsK] at h
  | jn _ _ _ => simp [refsK] at h
theorem tr_nt {z : Str} {sh : List (List Key)} (hv : SheetV z sh) {n i : Nat} {w : Str} (q : sh[n]? = some [.inr w, .inl (i : Nat)]) : trOf sh n = .nt (trOf sh i) ∧ i < n ∧ w = "not" := by
  have hn := hv n _ q
  generalize hk : ([.inr w, .inl (i : Nat)] : List Key) = ks at hn
  cases hn with
  | al h => cases hk
  | ho h => cases hk
  | re h h1 h2 => cases hk
  | @nt i' h =>
    have e1 : w = "not" := by have := (List.cons.inj hk).1; exact Sum.inr.inj this
    have e2 : i = i' := by have := (List.cons.inj (List.cons.inj hk).2).1; have := Sum.inl.inj this; omega
    subst e1 e2
    refine ⟨?_, h, rfl⟩
    unfold trOf
    rw [trF]
    simp only [q, Int.toNat_natCast]
    rw [trF_eq hv n (i + 1) i h (by omega)]
  | jn h h1 h2 => cases hk
theorem tr_jn {z : Str} {sh : List (List Key)} (hv : SheetV z sh) {n i j : Nat} {w : Str} (q : sh[n]? = some [.inr w, .inl (i : Nat), .inl (j : Nat)]) : trOf sh n = .jn w (trOf sh i) (trOf sh j) ∧ i < n ∧ j < n ∧ w ∈ joinL := by
  have hn := hv n _ q
  generalize hk : ([.inr w, .inl (i : Nat), .inl (j : Nat)] : List Key) = ks at hn
  cases hn with
  | al h => cases hk
  | ho h => cases hk
  | re h h1 h2 => cases hk
  | nt h => cases hk
  | @jn w' i' j' h h1 h2 =>
    have e1 : w = w' := by have := (List.cons.inj hk).1; exact Sum.inr.inj this
    have e2 : i = i' := by have := (List.cons.inj (List.cons.inj hk).2).1; have := Sum.inl.inj this; omega
    have e3 : j = j' := by have := (List.cons.inj (List.cons.inj (List.cons.inj hk).2).2).1; have := Sum.inl.inj this; omega
    subst e1 e2 e3
    refine ⟨?_, h1, h2, h⟩
    unfold trOf
    rw [trF]
    simp only [q, Int.toNat_natCast]
    rw [trF_eq hv n (i + 1) i h1 (by omega), trF_eq hv n (j + 1) j h2 (by omega)]
/-- by the kinds of nodes -/
theorem node_cases {z : Str} {sh : List (List Key)} (hv : SheetV z sh) {n : Nat} (hn : n < sh.length) {P : List Key → Tr → Prop} (h0 : ∀ ks, refsK ks = [] → NodeV z n ks → (∀ k, NodeV z k ks) → P ks (.atom ks)) (h1 : ∀ i : Nat, i < n → i < sh.length → P [.inr "not", .inl (i : Nat)] (.nt (trOf sh i)))
    (h2 : ∀ w (i j : Nat), w ∈ joinL → i < n → j < n → i < sh.length → j < sh.length → P [.inr w, .inl (i : Nat), .inl (j : Nat)] (.jn w (trOf sh i) (trOf sh j))) : ∃ ks, sh[n]? = some ks ∧ P ks (trOf sh n) := by
  have hk : sh[n]? = some (sh[n]'hn) := List.getElem?_eq_getElem hn
  generalize sh[n]'hn = ks at hk
  have hnv := hv n ks hk
  have hnv' := hnv
  refine ⟨ks, hk, ?_⟩
  cases hnv with
  | al h => rw [tr_at hv hk rfl]; exact h0 _ rfl hnv' fun _ => .al h
  | ho h => rw [tr_at hv hk rfl]; exact h0 _ rfl hnv' fun _ => .ho h
  | re h ht hu => rw [tr_at hv hk rfl]; exact h0 _ rfl hnv' fun _ => .re h ht hu
  | nt h =>
    obtain ⟨e, l, _⟩ := tr_nt hv hk
    rw [e]; exact h1 _ l (by omega)
  | jn h hi hj =>
    obtain ⟨e, l1, l2, hw⟩ := tr_jn hv hk
    rw [e]; exact h2 _ _ _ hw l1 l2 (by omega) (by omega)
theorem leaf_ok {z : Str} (hz : zOk z) {k : Nat} {ks : List Key} (h : NodeV z k ks) : KOk ks := by
  have c1 : ∀ w ∈ aloneL, PyData.strOk w = true := by decide +kernel
  have c2 : ∀ w ∈ relL, PyData.strOk w = true := by decide +kernel
  have c3 : ∀ w ∈ joinL, PyData.strOk w = true := by decide +kernel
  have c4 : PyData.strOk "holds" = true ∧ PyData.strOk "not" = true := by decide +kernel
  intro x hx s e
  subst e
  cases h with
  | al h => simp at hx; subst hx; exact c1 _ h
  | ho h =>
    simp at hx
    rcases hx with rfl | rfl
    · exact c4.1
    · exact (term_not hz h).2.2.2.2.2
  | re h ht hu =>
    simp at hx
    rcases hx with rfl | rfl | rfl
    · exact c2 _ h
    · exact (term_not hz ht).2.2.2.2.2
    · exact (term_not hz hu).2.2.2.2.2
  | nt h => simp at hx; subst hx; exact c4.2
  | jn h h1 h2 => simp at hx; subst hx; exact c3 _ h
def TrOk : Tr → Prop
  | .atom ks => KOk ks
  | .nt t => TrOk t
  | .jn w l r => w ∈ joinL ∧ TrOk l ∧ TrOk r
theorem kok_not {i : Nat} : KOk [.inr "not", .inl (i : Nat)] := leaf_ok (z := ⟨#[]⟩) (k := i + 1) (fun _ h => by cases h) (.nt (by omega))
theorem kok_jn {w : Str} {i j : Nat} (h : w ∈ joinL) : KOk [.inr w, .inl (i : Nat), .inl (j : Nat)] := leaf_ok (z := ⟨#[]⟩) (k := i + j + 1) (fun _ h => by cases h) (.jn h (by omega) (by omega))
theorem trOk_of {z : Str} (hz : zOk z) {sh : List (List Key)} (hv : SheetV z sh) : ∀ (n : Nat), n < sh.length → TrOk (trOf sh n) := by
  intro n
  induction n using Nat.strongRecOn with
  | ind n ih =>
    intro hn
    obtain ⟨ks, _, h⟩ := node_cases hv hn (P := fun _ t => TrOk t) (fun ks _ h _ => leaf_ok hz h) (fun i h1 h2 => ih i h1 h2) (fun w i j hw h1 h2 h3 h4 => ⟨hw, ih i h1 h3, ih j h2 h4⟩)
    exact h
theorem post_ok : ∀ {t : Tr} {ns : List (List Key)}, TrOk t → NsOk ns → NsOk (post t ns).1
  | .atom ks, ns, h, hn => hn.put h
  | .nt t, ns, h, hn => (post_ok (t := t) h hn).put kok_not
  | .jn w l r, ns, h, hn => (post_ok h.2.2 (post_ok h.2.1 hn)).put (kok_jn h.1)
theorem post_le : ∀ (t : Tr) (ns : List (List Key)), (post t ns).1.length ≤ ns.length + trSz t
  | .atom ks, ns => putN_le
  | .nt t, ns => by
    have h1 := post_le t ns
    have h2 := putN_le (ns := (post t ns).1) (ks := [.inr "not", .inl ((post t ns).2 : Nat)])
    simp only [post, trSz]; omega
  | .jn w l r, ns => by
    have h1 := post_le l ns
    have h2 := post_le r (post l ns).1
    have h3 := putN_le (ns := (post r (post l ns).1).1) (ks := [.inr w, .inl ((post l ns).2 : Nat), .inl ((post r (post l ns).1).2 : Nat)])
    simp only [post, trSz]; omega
theorem ix_dN0 {w : Str} {r : List Key} {m : Mem} {Q : QD} : dIx TT (dN (.inr w :: r)) (.int 0) m Q = Q (.str w) m := by
  show dIx TT (.tup (.str w :: r.map dK)) (.int ((0 : Nat) : Int)) m Q = _
  simp only [dIx, intQ]; rw [atI_nat rfl]; rfl
theorem ix_sh {p : Addr} {sh : List (List Key)} {n : Nat} {ks : List Key} {m : Mem} {Q : QD} (hp : m p = some (lstN sh)) (h : sh[n]? = some ks) : dIx TT (.ref p) (dI n) m Q = Q (dN ks) m :=
  ixL hp (by rw [List.getElem?_map, h]; rfl)
def jnWords : List Str := ["adds", "or", "and", "apart", "not"]
theorem jnWords_ok : ∀ j ∈ jnWords, PyData.strOk j = true := by decide +kernel
theorem joinL_sub : ∀ w ∈ joinL, w ∈ jnWords := by decide +kernel
/-- a node's first word -/
theorem node_word {z : Str} {n : Nat} {ks : List Key} (hz : zOk z) (h : NodeV z n ks) (hr : refsK ks = []) : ∃ w r, ks = .inr w :: r ∧ PyData.strOk w = true ∧ w ∉ jnWords ∧ bindOf w = none := by
  have c1 : ∀ w ∈ aloneL, PyData.strOk w = true ∧ w ∉ jnWords ∧ bindOf w = none := by decide +kernel
  have c2 : ∀ w ∈ relL, PyData.strOk w = true ∧ w ∉ jnWords ∧ bindOf w = none := by decide +kernel
  have c3 : PyData.strOk "holds" = true ∧ ("holds" : Str) ∉ jnWords ∧ bindOf "holds" = none := by decide +kernel
  cases h with
  | al h => exact ⟨_, _, rfl, c1 _ h⟩
  | ho h => exact ⟨_, _, rfl, c3⟩
  | re h ht hu => exact ⟨_, _, rfl, c2 _ h⟩
  | nt h => simp [refsK] at hr
  | jn h h1 h2 => simp [refsK] at hr
theorem node_split {z : Str} {sh : List (List Key)} (hv : SheetV z sh) {n : Nat} (hn : n < sh.length) {G : Prop} (h0 : ∀ ks, sh[n]? = some ks → refsK ks = [] → (∀ k, NodeV z k ks) → trOf sh n = .atom ks → G)
    (h1 : ∀ i : Nat, sh[n]? = some [.inr "not", .inl (i : Nat)] → i < n → i < sh.length → trOf sh n = .nt (trOf sh i) → G)
    (h2 : ∀ w (i j : Nat), sh[n]? = some [.inr w, .inl (i : Nat), .inl (j : Nat)] → w ∈ joinL → i < n → j < n → i < sh.length → j < sh.length → trOf sh n = .jn w (trOf sh i) (trOf sh j) → G) : G := by
  obtain ⟨ks, hk, H⟩ := node_cases hv hn (P := fun ks t => sh[n]? = some ks → t = trOf sh n → G) (fun ks h _ h' q e => h0 ks q h h' e.symm) (fun i l1 l2 q e => h1 i q l1 l2 e.symm) (fun w i j hw l1 l2 l3 l4 q e => h2 w i j q hw l1 l2 l3 l4 e.symm)
  exact H hk rfl
theorem Sx.new {a p : Addr} {m m' : Mem} {o : MO} (h : Sx a m m') (hp : m p = none) : Sx a m (mup m' p o) := fun b u e n => by
  rw [mup_ne (ne_new e hp)]; exact h b u e n
theorem Sx.at {a : Addr} {m m' : Mem} {o : MO} (h : Sx a m m') : Sx a m (mup m' a o) := fun b u e n => by
  rw [mup_ne n]; exact h b u e n
theorem Sx.up {a : Addr} {m m' : Mem} (h : Sx a m m') (o : MO) : Sub (mup m a o) (mup m' a o) := fun b u e => by
  by_cases n : b = a
  · subst n; rw [mup_same] at e ⊢; exact e
  · rw [mup_ne n] at e ⊢; exact h b u e n
theorem l__law_tidy {k : Nat} {ds : List D} {m : Mem} {Q : QD} {X : XD} (h : g_tidyN (k + 1) ds m Q X) : r__law_tidy (g_tidyN k) (startD N__law_tidy.length ds) m (zsS Q X) := by
  obtain ⟨p, n, q, z, sh, ns, rfl, pq, hp, hq, hv, hz, hn, hk, hns, hl, h⟩ := h
  show r__law_tidy (g_tidyN k) [some (.ref p), some (dI n), some (.ref q), none, none] m (zsS Q X)
  have h5 : 5 ≤ sizeLine := by rw [sizeLine_eq]; decide
  have e5 : ([.str "adds", .str "or", .str "and", .str "apart", .str "not"] : List D) = jnWords.map D.str := rfl
  -- the end
  have fin : ∀ (m' : Mem) (ns' : List (List Key)) (ks : List Key) (o4 : Option D), m' q = some (lstN ns') → NsOk ns' → KOk ks → ns'.length < 1000000 → putN ns' ks = post (trOf sh n) ns → Sx q m m' → sRet (eCall g__law_listed [] (aCons (eVar 2) (aCons (eB bTuple (aCons (eVar 3) aNil)) aNil))) [some (.ref p), some (dI n), some (.ref q), some (dN ks), o4] m' (zsS Q X) := by
    intro m' ns' ks o4 e1 e2 e3 e4 e5 e6
    simp only [sRet, eCall, eB, aCons, aNil, eVar, List.getElem?_cons_zero, List.getElem?_cons_succ, List.set_cons_succ, List.set_cons_zero, List.append_nil, bTuple, d1Q, tupQ]
    show g__law_listed [.ref q, dN ks] m' _ _
    refine x_listed e1 e3 e2 e4 ?_
    rw [e5]
    exact ⟨_, e6.up _, h⟩
  refine node_split hv hn (fun ks hks hr hnv et => ?_) (fun i hks hi1 hi2 et => ?_) (fun w i j hks hw hi1 hj1 hi2 hj2 et => ?_)
  · obtain ⟨w, r, e, s1, s2, _⟩ := node_word (n := 0) hz (hnv 0) hr
    rw [r__law_tidy, sSeq]
    simp only [sAsg, eBin, eVar, List.getElem?_cons_zero, List.getElem?_cons_succ, List.set_cons_succ, List.set_cons_zero, List.append_nil, ix_sh hp hks, gN]
    rw [sSeq]
    subst e
    simp only [sIf, tOf, eBin, eTup, aCons, aNil, eVar, eK, List.getElem?_cons_zero, List.getElem?_cons_succ, List.set_cons_succ, List.set_cons_zero, List.append_nil, ix_dN0, List.length_cons, List.length_nil]
    refine ⟨h5, ?_⟩
    rw [e5]
    simp only [dIn]
    rw [inB_strs s1 jnWords_ok, decide_eq_false s2]
    simp only [bK]
    refine ⟨fun z => (by cases z), fun _ => ?_⟩
    exact fin m ns _ none hq hns (leaf_ok hz (hnv 0)) (by omega) (by rw [et]; rfl) (Sx.refl m)
  · rw [et] at hl
    simp only [trSz] at hl
    rw [r__law_tidy, sSeq]
    simp only [sAsg, eBin, eVar, List.getElem?_cons_zero, List.getElem?_cons_succ, List.set_cons_succ, List.set_cons_zero, List.append_nil, ix_sh hp hks, gN]
    rw [sSeq]
    simp only [sIf, tOf, eBin, eTup, aCons, aNil, eVar, eK, List.getElem?_cons_zero, List.getElem?_cons_succ, List.set_cons_succ, List.set_cons_zero, List.append_nil, ix_dN0, List.length_cons, List.length_nil]
    refine ⟨h5, ?_⟩
    rw [e5]
    simp only [dIn]
    rw [inB_strs (by decide +kernel) jnWords_ok, decide_eq_true (by decide +kernel)]
    simp only [bK]
    refine ⟨fun _ => ?_, fun z => (by cases z)⟩
    have ec : (dN [.inr "not", .inl (i : Nat)] : D) = .tup [.str "not", .int (i : Nat)] := rfl
    simp only [sAsg, eBin, eTup, eB, eLc, iSeq, eCut, oSome, oNone, aCons, aNil, eVar, eK, List.getElem?_cons_zero, List.getElem?_cons_succ, List.set_cons_succ, List.set_cons_zero, List.append_nil, ix_dN0, List.length_cons, List.length_nil, intQ]
    refine ⟨by rw [sizeLine_eq]; omega, ?_⟩
    rw [ec]
    simp only [dCut, cut1, iterQ]
    intro p1 hp1
    have np1 : p ≠ p1 := ne_new hp hp1
    have nq1 : q ≠ p1 := ne_new hq hp1
    refine ⟨trivial, ?_⟩
    simp only [gN, tYesD, wipeD, List.getElem?_cons_zero, List.getElem?_cons_succ, List.set_cons_succ, List.set_cons_zero, List.append_nil, eCall, aCons, aNil, eVar]
    refine ⟨fun _ => ?_, fun z => (by cases z)⟩
    refine ⟨p, i, q, z, sh, ns, rfl, pq, by rw [mup_ne np1]; exact hp, by rw [mup_ne nq1]; exact hq, hv, hz, hi2, by omega, hns, by omega, ?_⟩
    refine ⟨[], by rw [mup_ne nq1.symm, mup_same], by rw [sizeLine_eq]; decide, trivial, ?_⟩
    simp only [bTuple, d1Q, tupQ, mup_same, List.nil_append, dAdd, gN, List.getElem?_cons_zero, List.getElem?_cons_succ, List.set_cons_succ, List.set_cons_zero, List.append_nil]
    refine ⟨by rw [sizeLine_eq]; simp only [List.length_cons, List.length_nil]; omega, ?_⟩
    exact fin _ (post (trOf sh i) ns).1 [.inr "not", .inl ((post (trOf sh i) ns).2 : Nat)] none (by rw [mup_ne nq1, mup_same]) (post_ok (trOk_of hz hv i hi2) hns) kok_not (by have := post_le (trOf sh i) ns; omega) (by rw [et]; rfl) (((Sx.refl m).new hp1).at.new hp1)
  · rw [et] at hl
    simp only [trSz] at hl
    have sw := jnWords_ok w (joinL_sub w hw)
    rw [r__law_tidy, sSeq]
    simp only [sAsg, eBin, eVar, List.getElem?_cons_zero, List.getElem?_cons_succ, List.set_cons_succ, List.set_cons_zero, List.append_nil, ix_sh hp hks, gN]
    rw [sSeq]
    simp only [sIf, tOf, eBin, eTup, aCons, aNil, eVar, eK, List.getElem?_cons_zero, List.getElem?_cons_succ, List.set_cons_succ, List.set_cons_zero, List.append_nil, ix_dN0, List.length_cons, List.length_nil]
    refine ⟨h5, ?_⟩
    rw [e5]
    simp only [dIn]
    rw [inB_strs sw jnWords_ok, decide_eq_true (joinL_sub w hw)]
    simp only [bK]
    refine ⟨fun _ => ?_, fun z => (by cases z)⟩
    have ec : (dN [.inr w, .inl (i : Nat), .inl (j : Nat)] : D) = .tup [.str w, .int (i : Nat), .int (j : Nat)] := rfl
    simp only [sAsg, eBin, eTup, eB, eLc, iSeq, eCut, oSome, oNone, aCons, aNil, eVar, eK, List.getElem?_cons_zero, List.getElem?_cons_succ, List.set_cons_succ, List.set_cons_zero, List.append_nil, ix_dN0, List.length_cons, List.length_nil, intQ]
    refine ⟨by rw [sizeLine_eq]; omega, ?_⟩
    rw [ec]
    simp only [dCut, cut1, iterQ]
    intro p1 hp1
    have np1 : p ≠ p1 := ne_new hp hp1
    have nq1 : q ≠ p1 := ne_new hq hp1
    have le1 := post_le (trOf sh i) ns
    have le2 := post_le (trOf sh j) (post (trOf sh i) ns).1
    have ok1 := post_ok (trOk_of hz hv i hi2) hns
    refine ⟨trivial, ?_⟩
    simp only [gN, tYesD, wipeD, List.getElem?_cons_zero, List.getElem?_cons_succ, List.set_cons_succ, List.set_cons_zero, List.append_nil, eCall, aCons, aNil, eVar]
    refine ⟨fun _ => ?_, fun z => (by cases z)⟩
    refine ⟨p, i, q, z, sh, ns, rfl, pq, by rw [mup_ne np1]; exact hp, by rw [mup_ne nq1]; exact hq, hv, hz, hi2, by omega, hns, by omega, ?_⟩
    refine ⟨[], by rw [mup_ne nq1.symm, mup_same], by rw [sizeLine_eq]; decide, trivial, ?_⟩
    simp only [gN, tYesD, wipeD, List.getElem?_cons_zero, List.getElem?_cons_succ, List.set_cons_succ, List.set_cons_zero, List.append_nil, eCall, aCons, aNil, eVar]
    refine ⟨fun _ => ?_, fun z => (by cases z)⟩
    refine ⟨p, j, q, z, sh, (post (trOf sh i) ns).1, rfl, pq, ?_, ?_, hv, hz, hj2, by omega, ok1, by omega, ?_⟩
    · rw [mup_ne np1, mup_ne pq, mup_ne np1]; exact hp
    · rw [mup_ne nq1, mup_same]
    refine ⟨[.int ((post (trOf sh i) ns).2 : Nat)], by rw [mup_ne nq1.symm, mup_same]; rfl, by rw [sizeLine_eq]; simp only [List.length_cons, List.length_nil]; omega, trivial, ?_⟩
    simp only [bTuple, d1Q, tupQ, mup_same, List.nil_append, dAdd, gN, List.getElem?_cons_zero, List.getElem?_cons_succ, List.set_cons_succ, List.set_cons_zero, List.append_nil]
    refine ⟨by rw [sizeLine_eq]; simp only [List.length_cons, List.length_nil, List.length_append]; omega, ?_⟩
    exact fin _ (post (trOf sh j) (post (trOf sh i) ns).1).1 [.inr w, .inl ((post (trOf sh i) ns).2 : Nat), .inl ((post (trOf sh j) (post (trOf sh i) ns).1).2 : Nat)] none (by rw [mup_ne nq1, mup_same]) (post_ok (trOk_of hz hv j hj2) ok1) (kok_jn hw) (by omega) (by rw [et]; rfl) (((((Sx.refl m).new hp1).at.new hp1).at).new hp1)
end L2.EV
set_option maxHeartbeats 1000000
/-! K01L37: the law's widths. -/
namespace L2.EV
open PySem PySem.Spec PyProof.Rows
def wdT (sh : List (List Key)) (k : Nat) : List D := (List.range k).map fun i => dI (trSz (trOf sh i))
def wdBody : ES := sExpr (eM isLst mAppend (eVar 1) (aCons (eBin dAdd (eK (.int 1)) (eB bSum (aCons (eLc (iSeq (eCut (eVar 2) (oSome (eK (.int 1))) oNone)) (gN 3) (tTru (eB bIsi (aCons (eVar 3) (aCons (eK (.ty "int")) aNil)))) (eBin (dIx TT) (eVar 1) (eVar 3)) [3]) aNil))) aNil))
def isI : D → Bool
  | .int _ => true
  | _ => false
theorem isI_refs {ks : List Key} (h : refsK ks = []) : ∀ x ∈ ks.map dK, isI x = false := fun x hx => by
  obtain ⟨k, hk, rfl⟩ := List.mem_map.mp hx
  cases k with
  | inr s => rfl
  | inl i =>
    have : i.toNat ∈ refsK ks := List.mem_filterMap.mpr ⟨_, hk, rfl⟩
    rw [h] at this; cases this
/-- the sum over a node's parts -/
theorem wd_sum {sh : List (List Key)} {k : Nat} {w : Str} {r : List Key} {is : List Nat} {p pt : Addr} {m : Mem} {Q : QD} {X : XD} {o3 : Option D} (hpt : m pt = some (.lst (wdT sh k)))
    (hf : ((r.map dK).filter isI) = is.map dI) (hs : ∀ x ∈ r.map dK, x = .int 0 ∨ (∃ i : Nat, x = dI i ∧ i < k) ∨ ∃ s, x = .str s) (h0 : .int 0 ∈ r.map dK → 0 < k) (hr : r.length ≤ 5)
    (h : ∀ p, m p = none → Q (.int (1 + (is.map fun i => (trSz (trOf sh i) : Int)).sum)) (mup m p (.lst (is.map fun i => dI (trSz (trOf sh i)))))) :
    eBin dAdd (eK (.int 1)) (eB bSum (aCons (eLc (iSeq (eCut (eVar 2) (oSome (eK (.int 1))) oNone)) (gN 3) (tTru (eB bIsi (aCons (eVar 3) (aCons (eK (.ty "int")) aNil)))) (eBin (dIx TT) (eVar 1) (eVar 3)) [3]) aNil)) [some (.ref p), some (.ref pt), some (dN (.inr w :: r)), o3] m Q X := by
  have ec : (dN (.inr w :: r) : D) = .tup (.str w :: r.map dK) := rfl
  simp only [eBin, eB, eLc, iSeq, eCut, oSome, oNone, aCons, aNil, eVar, eK, List.getElem?_cons_zero, List.getElem?_cons_succ, List.set_cons_succ, List.set_cons_zero, List.append_nil, intQ, ec, dCut, cut1, iterQ, List.drop_succ_cons, List.drop_zero]
  intro p1 hp1
  have n1 : pt ≠ p1 := ne_new hpt hp1
  refine lc_ex (f := fun d => match d with
    | .int i => dI (trSz (trOf sh i.toNat))
    | _ => .non) (b := isI) (fun acc => trivial) (fun x hx acc kk hk => ?_) (fun x hx hb acc kk hk => ?_) (by rw [List.length_map, sizeLine_eq]; omega) ?_
  · simp only [wipeD, List.getElem?_cons_zero, List.getElem?_cons_succ, List.set_cons_succ, List.set_cons_zero, List.append_nil, tTru, eB, aCons, aNil, eVar, eK, bIsi, d2Q]
    rcases hs x hx with rfl | ⟨i, rfl, _⟩ | ⟨s, rfl⟩
    · exact ⟨by decide +kernel, hk⟩
    · exact ⟨by decide +kernel, hk⟩
    · exact ⟨by decide +kernel, hk⟩
  · have hi : ∃ i : Nat, x = dI i ∧ i < k := by
      rcases hs x hx with rfl | h | ⟨s, rfl⟩
      · exact ⟨0, rfl, h0 hx⟩
      · exact h
      · cases hb
    obtain ⟨i, rfl, hi⟩ := hi
    simp only [wipeD, List.getElem?_cons_zero, List.getElem?_cons_succ, List.set_cons_succ, List.set_cons_zero, List.append_nil, eBin, eVar]
    show dIx TT (.ref pt) (.int (i : Nat)) _ _
    rw [ixL (show mup m p1 (.lst acc) pt = some (.lst (wdT sh k)) by rw [mup_ne n1]; exact hpt) (x := dI (trSz (trOf sh i))) (by
      unfold wdT; rw [List.getElem?_map, List.getElem?_range hi]; rfl)]
    exact hk
  · rw [hf, List.map_map]
    have e1 : (is.map ((fun d => match d with
      | .int i => dI (trSz (trOf sh i.toNat))
      | _ => .non) ∘ dI)) = is.map fun i => dI (trSz (trOf sh i)) := rfl
    rw [e1]
    have e2 : intsOf (is.map fun i => dI (trSz (trOf sh i))) = some (is.map fun i => (trSz (trOf sh i) : Int)) := by
      clear hf h e1 hs
      induction is with
      | nil => rfl
      | cons i is ih => simp only [List.map_cons, dI, intsOf] at ih ⊢; rw [ih]; rfl
    simp only [bSum, d1Q, lisOf, mup_same, Option.bind_some, e2, optQ_some', dAdd]
    exact h p1 hp1
theorem wd_loop {z : Str} {sh : List (List Key)} {p pt : Addr} {m : Mem} {Z : Zs} (hv : SheetV z sh) (hp : m p = some (lstN sh)) (hpt : m pt = none) (hl : sh.length ≤ 100) (hf : ∀ o2, Z.nx [some (.ref p), some (.ref pt), o2, none] (mup m pt (.lst (wdT sh sh.length)))) : ∀ (r : List (List Key)) (k : Nat) (o2 : Option D), sh = sh.take k ++ r → k ≤ sh.length →
    forS (fun m' => m' p = some (.lst (sh.map dN))) (gN 2) wdBody Z (r.map dN) [some (.ref p), some (.ref pt), o2, none] (mup m pt (.lst (wdT sh k)))
  | [], k, o2, e, hk => by
    have npt : p ≠ pt := ne_new hp hpt
    have ek : k = sh.length := by
      have := congrArg List.length e; rw [List.append_nil, List.length_take] at this; omega
    subst ek
    exact ⟨(mup_ne npt).trans hp, hf o2⟩
  | ks :: r, k, o2, e, hk => by
    have npt : p ≠ pt := ne_new hp hpt
    have hkl : k < sh.length := by
      have := congrArg List.length e; rw [List.length_append, List.length_take, List.length_cons] at this; omega
    have hks : sh[k]? = some ks := by
      rw [e, List.getElem?_append_right (by rw [List.length_take]; omega)]
      rw [List.length_take, Nat.min_eq_left hk, Nat.sub_self]; rfl
    refine ⟨(mup_ne npt).trans hp, ?_⟩
    simp only [gN, List.getElem?_cons_zero, List.getElem?_cons_succ, List.set_cons_succ, List.set_cons_zero, List.append_nil, wdBody, sExpr, eM, aCons, aNil]
    have e' : sh = sh.take (k + 1) ++ r := by
      have h1 := List.take_append_drop k sh
      rw [List.take_add_one, hks]
      simp only [Option.toList_some]
      rw [List.append_assoc]; exact e
    have step : ∀ (w : Str) (rk : List Key) (is : List Nat), ks = .inr w :: rk → ((rk.map dK).filter isI) = is.map dI → (∀ x ∈ rk.map dK, x = .int 0 ∨ (∃ i : Nat, x = dI i ∧ i < k) ∨ ∃ s, x = .str s) → (.int 0 ∈ rk.map dK → 0 < k) → rk.length ≤ 5 → (1 + (is.map fun i => (trSz (trOf sh i) : Int)).sum) = ((trSz (trOf sh k) : Nat) : Int) →
        (isLst (.ref pt) (mup m pt (.lst (wdT sh k))) ∧ eBin dAdd (eK (.int 1)) (eB bSum (aCons (eLc (iSeq (eCut (eVar 2) (oSome (eK (.int 1))) oNone)) (gN 3) (tTru (eB bIsi (aCons (eVar 3) (aCons (eK (.ty "int")) aNil)))) (eBin (dIx TT) (eVar 1) (eVar 3)) [3]) aNil)) [some (.ref p), some (.ref pt), some (dN ks), none] (mup m pt (.lst (wdT sh k)))
          (fun d m1 => mAppend (.ref pt) [d] m1 fun _ m1 => shM (forS (fun m' => m' p = some (.lst (sh.map dN))) (gN 2) wdBody Z (r.map dN) [some (.ref p), some (.ref pt), some (dN ks), none]) m1) (xs_ Z [some (.ref p), some (.ref pt), some (dN ks), none])) := by
      intro w rk is ek h1 h2 h3 h4 h5
      refine ⟨by simp only [isLst, mup_same], ?_⟩
      subst ek
      refine wd_sum (k := k) mup_same h1 h2 h3 h4 fun p1 hp1 => ?_
      have n1 : pt ≠ p1 := ne_new mup_same hp1
      simp only [mAppend, lstQ, d1Q]
      rw [mup_ne n1, mup_same]
      refine ⟨by unfold wdT; rw [List.length_map, List.length_range, sizeLine_eq]; omega, mup m pt (.lst (wdT sh (k + 1))), ?_, wd_loop hv hp hpt hl hf r (k + 1) _ e' hkl⟩
      have ew : wdT sh k ++ [.int (1 + (is.map fun i => (trSz (trOf sh i) : Int)).sum)] = wdT sh (k + 1) := by
        unfold wdT; rw [List.range_succ, List.map_append, h5]; rfl
      rw [ew]
      intro b u q
      by_cases nb : b = pt
      · subst nb; rw [mup_same] at q ⊢; exact q
      · rw [mup_ne nb] at q ⊢
        have hb1 : mup m pt (.lst (wdT sh k)) b = some u := by rw [mup_ne nb]; exact q
        rw [mup_ne (ne_new hb1 hp1)]; exact hb1
    refine node_split hv hkl (fun ks' hks' hr hnv et => ?_) (fun i hks' hi1 hi2 et => ?_) (fun w i j hks' hw hi1 hj1 hi2 hj2 et => ?_)
    · rw [hks] at hks'; cases hks'
      have hc : ∃ w rk, ks = .inr w :: rk ∧ rk.length ≤ 2 ∧ (∀ x ∈ rk.map dK, ∃ s, x = .str s) := by
        cases hnv 0 with
        | al h => exact ⟨_, _, rfl, by simp, fun x hx => by cases hx⟩
        | ho h => exact ⟨_, _, rfl, by simp, fun x hx => ⟨_, by simpa [dK] using hx⟩⟩
        | re h ht hu =>
          refine ⟨_, _, rfl, by simp, fun x hx => ?_⟩
          simp only [List.map_cons, List.map_nil, List.mem_cons, List.not_mem_nil, or_false, dK] at hx
          rcases hx with rfl | rfl
          · exact ⟨_, rfl⟩
          · exact ⟨_, rfl⟩
        | nt h => exact absurd h (Nat.not_lt_zero _)
        | jn h h1 h2 => exact absurd h1 (Nat.not_lt_zero _)
      obtain ⟨w, rk, rfl, hl', hstr⟩ := hc
      refine step w rk [] rfl ?_ (fun x hx => .inr (.inr (hstr x hx))) (fun hx => ?_) (by omega) (by rw [et]; rfl)
      · refine List.filter_eq_nil_iff.mpr fun x hx => ?_
        obtain ⟨s, rfl⟩ := hstr x hx
        exact Bool.false_ne_true
      · obtain ⟨s, hs⟩ := hstr _ hx; cases hs
    · rw [hks] at hks'; cases hks'
      refine step "not" [.inl (i : Nat)] [i] rfl rfl (fun x hx => ?_) (fun _ => by omega) (by simp) (by rw [et]; simp [trSz])
      have := List.mem_singleton.mp hx
      exact .inr (.inl ⟨i, this, hi1⟩)
    · rw [hks] at hks'; cases hks'
      refine step w [.inl (i : Nat), .inl (j : Nat)] [i, j] rfl rfl (fun x hx => ?_) (fun _ => by omega) (by simp) (by rw [et]; simp [trSz])
      rcases List.mem_cons.mp hx with hx | hx
      · exact .inr (.inl ⟨i, hx, hi1⟩)
      · exact .inr (.inl ⟨j, List.mem_singleton.mp hx, hj1⟩)
theorem l__law_width {ds : List D} {m : Mem} {Q : QD} {X : XD} (h : g__law_width ds m Q X) : r__law_width (startD N__law_width.length ds) m (zsS Q X) := by
  obtain ⟨p, z, sh, rfl, hp, ⟨hv, l1, l2⟩, h⟩ := h
  show r__law_width [some (.ref p), none, none, none] m (zsS Q X)
  simp only [r__law_width, sSeq, sAsg, eLst, aNil, dRef, gN, List.getElem?_cons_zero, List.getElem?_cons_succ, List.set_cons_succ, List.set_cons_zero, List.append_nil]
  refine ⟨by simp, fun pt hpt => ?_⟩
  have npt : p ≠ pt := ne_new hp hpt
  simp only [sForS, iSeq, eVar, List.getElem?_cons_zero, List.getElem?_cons_succ, List.set_cons_succ, List.set_cons_zero, List.append_nil, iterQ]
  rw [mup_ne npt, hp]
  simp only [lstN]
  refine wd_loop hv hp hpt l2 (fun o2 => ?_) sh 0 none (by simp) (Nat.zero_le _)
  simp only [sRet, eBin, eUn, dNeg, eVar, eK, List.getElem?_cons_zero, List.getElem?_cons_succ, List.set_cons_succ, List.set_cons_zero, List.append_nil, dIx, mup_same, intQ]
  have e : wdT sh sh.length = wdT sh (sh.length - 1) ++ [dI (trSz (trOf sh (sh.length - 1)))] := by
    unfold wdT
    obtain ⟨n, hn⟩ : ∃ n, sh.length = n + 1 := ⟨sh.length - 1, by omega⟩
    rw [hn, List.range_succ, List.map_append]; rfl
  rw [e, atI_last]
  exact ⟨m, sub_p hpt, h⟩
end L2.EV
set_option maxHeartbeats 1000000
/-! K01L38: the law's sheets. -/
namespace L2.EV
open PySem PySem.Spec PyProof.Rows
def shMenu : List Str := ["not", "and", "or", "apart", "adds", "apart", "not", "and"]
theorem shMenu_ok : ∀ w ∈ shMenu, PyData.strOk w = true ∧ (w = "not" ∨ w ∈ joinL) := by decide +kernel
def shBody : ES :=
   (sSeq (sIf (tOr (tOf (eBin dEq (eVar 5) (eK (.int 0)))) (tAnd (tOf (eBin dLt (eVar 5) (eBin dSub (eVar 2) (eK (.int 1))))) (tOf (eBin dEq (eCall g__law_pick [] (aCons (eVar 0) (aCons (eK (.int 3)) aNil))) (eK (.int 1))))))
    (sSeq (sExpr (eM isLst mAppend (eVar 4) (aCons (eIf (tOf (eBin dEq (eCall g__law_pick [] (aCons (eVar 0) (aCons (eK (.int 2)) aNil))) (eK (.int 0)))) (eCall g__law_loose [] (aCons (eVar 0) (aCons (eVar 1) aNil))) (eCall g__law_exact [] (aCons (eVar 0) (aCons (eVar 1) aNil)))) aNil)))
    sCont)
    sNil)
   (sSeq (sAsg (gN 6) (eBin (dIx TT) (eVar 3) (eCall g__law_pick [] (aCons (eVar 0) (aCons (eB bLen (aCons (eVar 3) aNil)) aNil)))))
   (sSeq (sAsg (gN 7) (eIf (tOf (eBin dGt (eCall g__law_pick [] (aCons (eVar 0) (aCons (eK (.int 3)) aNil))) (eK (.int 0)))) (eBin dSub (eVar 5) (eK (.int 1))) (eCall g__law_pick [] (aCons (eVar 0) (aCons (eVar 5) aNil)))))
   (sSeq (sAsg (gN 8) (eCall g__law_pick [] (aCons (eVar 0) (aCons (eVar 5) aNil))))
   (sIf (tOf (eBin dEq (eVar 6) (eK (.str "not"))))
    (sExpr (eM isLst mAppend (eVar 4) (aCons (eTup (aCons (eVar 6) (aCons (eVar 7) aNil))) aNil)))
    (sExpr (eM isLst mAppend (eVar 4) (aCons (eIf (tOf (eBin dEq (eCall g__law_pick [] (aCons (eVar 0) (aCons (eK (.int 2)) aNil))) (eK (.int 0)))) (eTup (aCons (eVar 6) (aCons (eVar 7) (aCons (eVar 8) aNil)))) (eTup (aCons (eVar 6) (aCons (eVar 8) (aCons (eVar 7) aNil))))) aNil))))))))
structure ShSt (m0 m : Mem) (a pm pt : Addr) (z : Str) (sh : List (List Key)) : Prop where
  S : Sx a m0 m
  ha : SrcAt m a
  hm : m pm = some (.lst (shMenu.map D.str))
  ht : m pt = some (lstN sh)
  f : m0 pt = none
  ta : pt ≠ a
  ma : pm ≠ a
  tm : pm ≠ pt
  V : SheetV z sh
theorem ShSt.same {m0 m m' : Mem} {a pm pt : Addr} {z : Str} {sh : List (List Key)} (h : ShSt m0 m a pm pt z sh) (e : ∀ b, b ≠ a → m' b = m b) (ha : SrcAt m' a) : ShSt m0 m' a pm pt z sh :=
  ⟨h.S.same e, ha, by rw [e _ h.ma]; exact h.hm, by rw [e _ h.ta]; exact h.ht, h.f, h.ta, h.ma, h.tm, h.V⟩
theorem ShSt.push {m0 m : Mem} {a pm pt : Addr} {z : Str} {sh : List (List Key)} {ks : List Key} (h : ShSt m0 m a pm pt z sh) (v : NodeV z sh.length ks) : ShSt m0 (mup m pt (.lst (sh.map dN ++ [dN ks]))) a pm pt z (sh ++ [ks]) := by
  have e : sh.map dN ++ [dN ks] = (sh ++ [ks]).map dN := by rw [List.map_append]; rfl
  rw [e]
  refine ⟨h.S.new h.f, ?_, ?_, mup_same, h.f, h.ta, h.ma, h.tm, sheet_app h.V v⟩
  · obtain ⟨d, s, c, q⟩ := h.ha
    exact ⟨d, s, c, by rw [mup_ne h.ta.symm]; exact q⟩
  · rw [mup_ne h.tm]; exact h.hm
theorem sh_loop {m0 : Mem} {a pm pt : Addr} {z : Str} {n : Nat} {Z : Zs} (hz : zNm z) (hn : n ≤ 100) (hf : ∀ m sh o5 o6 o7 o8, ShSt m0 m a pm pt z sh → sh.length = n → Z.nx [some (.ref a), some (.str z), some (dI n), some (.ref pm), some (.ref pt), o5, o6, o7, o8] m) : ∀ (r k : Nat) (m : Mem) (sh : List (List Key)) (o5 o6 o7 o8 : Option D), sh.length = k → k + r = n → ShSt m0 m a pm pt z sh →
    forS noG (gN 5) shBody Z ((List.range' k r).map fun (i : Nat) => D.int (i : Nat)) [some (.ref a), some (.str z), some (dI n), some (.ref pm), some (.ref pt), o5, o6, o7, o8] m
  | 0, k, m, sh, o5, o6, o7, o8, h1, h2, h => ⟨trivial, hf m sh o5 o6 o7 o8 h (by omega)⟩
  | r + 1, k, m, sh, o5, o6, o7, o8, h1, h2, h => by
    have el : (sh.map dN).length = k := by rw [List.length_map]; exact h1
    have h3 : 3 ≤ sizeLine := by rw [sizeLine_eq]; decide
    have hls : k < sizeLine := by rw [sizeLine_eq]; omega
    -- append a node
    have app : ∀ (m : Mem) (ks : List Key) (e : Sl) (o5 o6 o7 o8 : Option D), ShSt m0 m a pm pt z sh → NodeV z k ks → e = [some (.ref a), some (.str z), some (dI n), some (.ref pm), some (.ref pt), o5, o6, o7, o8] → mAppend (.ref pt) [dN ks] m fun _ m1 => shM (forS noG (gN 5) shBody Z ((List.range' (k + 1) r).map fun (i : Nat) => D.int (i : Nat)) e) m1 := by
      intro m ks e o5 o6 o7 o8 h v he
      subst he
      simp only [mAppend, lstQ, d1Q, h.ht, lstN]
      refine ⟨by rw [el]; exact hls, shM_of ?_⟩
      exact sh_loop hz hn hf r (k + 1) _ (sh ++ [ks]) _ _ _ _ (by simp [h1]) (by omega) (h.push (by rw [h1]; exact v))
    refine ⟨trivial, ?_⟩
    simp only [gN, List.getElem?_cons_zero, List.getElem?_cons_succ, List.set_cons_succ, List.set_cons_zero, List.append_nil]
    -- a leaf
    have leaf : ∀ (NX : Sl → Mem → Prop) m, ShSt m0 m a pm pt z sh → (sSeq (sExpr (eM isLst mAppend (eVar 4) (aCons (eIf (tOf (eBin dEq (eCall g__law_pick [] (aCons (eVar 0) (aCons (eK (.int 2)) aNil))) (eK (.int 0)))) (eCall g__law_loose [] (aCons (eVar 0) (aCons (eVar 1) aNil))) (eCall g__law_exact [] (aCons (eVar 0) (aCons (eVar 1) aNil)))) aNil))) sCont)
        [some (.ref a), some (.str z), some (dI n), some (.ref pm), some (.ref pt), some (.int (k : Nat)), o6, o7, o8] m { nx := NX, ct := fun e2 m2 => shM (forS noG (gN 5) shBody Z ((List.range' (k + 1) r).map fun (i : Nat) => D.int (i : Nat)) e2) m2, bk := Z.nx, rt := Z.rt, ex := Z.ex } := by
      intro NX m h
      simp only [sSeq, sExpr, sCont, eM, eIf, tOf, eBin, eCall, aCons, aNil, eVar, eK, List.getElem?_cons_zero, List.getElem?_cons_succ, List.set_cons_succ, List.set_cons_zero, List.append_nil, isLst, h.ht, lstN]
      refine ⟨trivial, x_pick (n := 2) h.ha (by decide) (by decide) fun v m1 hv ha1 s1 => ?_⟩
      have h1' := h.same s1 ha1
      show dEq (.int (v : Nat)) (.int 0) m1 _
      rw [dEq_int]
      simp only [bK]
      refine ⟨fun _ => ?_, fun _ => ?_⟩
      · refine x_leaf ha1 hz fun ks m2 hv ha2 s2 => ?_
        exact app m2 ks _ _ _ _ _ (h1'.same s2 ha2) (hv k) rfl
      · refine x_leaf ha1 hz fun ks m2 hv ha2 s2 => ?_
        exact app m2 ks _ _ _ _ _ (h1'.same s2 ha2) (hv k) rfl
    -- a node of others
    have node : ∀ m, 0 < k → ShSt m0 m a pm pt z sh → (sSeq (sAsg (gN 6) (eBin (dIx TT) (eVar 3) (eCall g__law_pick [] (aCons (eVar 0) (aCons (eB bLen (aCons (eVar 3) aNil)) aNil)))))
   (sSeq (sAsg (gN 7) (eIf (tOf (eBin dGt (eCall g__law_pick [] (aCons (eVar 0) (aCons (eK (.int 3)) aNil))) (eK (.int 0)))) (eBin dSub (eVar 5) (eK (.int 1))) (eCall g__law_pick [] (aCons (eVar 0) (aCons (eVar 5) aNil)))))
   (sSeq (sAsg (gN 8) (eCall g__law_pick [] (aCons (eVar 0) (aCons (eVar 5) aNil))))
   (sIf (tOf (eBin dEq (eVar 6) (eK (.str "not"))))
    (sExpr (eM isLst mAppend (eVar 4) (aCons (eTup (aCons (eVar 6) (aCons (eVar 7) aNil))) aNil)))
    (sExpr (eM isLst mAppend (eVar 4) (aCons (eIf (tOf (eBin dEq (eCall g__law_pick [] (aCons (eVar 0) (aCons (eK (.int 2)) aNil))) (eK (.int 0)))) (eTup (aCons (eVar 6) (aCons (eVar 7) (aCons (eVar 8) aNil)))) (eTup (aCons (eVar 6) (aCons (eVar 8) (aCons (eVar 7) aNil))))) aNil)))))))
        [some (.ref a), some (.str z), some (dI n), some (.ref pm), some (.ref pt), some (.int (k : Nat)), o6, o7, o8] m { nx := fun e2 m2 => shM (forS noG (gN 5) shBody Z ((List.range' (k + 1) r).map fun (i : Nat) => D.int (i : Nat)) e2) m2, ct := fun e2 m2 => shM (forS noG (gN 5) shBody Z ((List.range' (k + 1) r).map fun (i : Nat) => D.int (i : Nat)) e2) m2, bk := Z.nx, rt := Z.rt, ex := Z.ex } := by
      intro m k0 h
      rw [sSeq]
      simp only [sAsg, eBin, eCall, eB, aCons, aNil, eVar, eK, List.getElem?_cons_zero, List.getElem?_cons_succ, List.set_cons_succ, List.set_cons_zero, List.append_nil, bLen, d1Q, lenQ, h.hm, List.length_map]
      refine x_pick (n := 8) h.ha (by decide) (by decide) fun v m1 hv ha1 s1 => ?_
      have h1' := h.same s1 ha1
      have hv' : v < shMenu.length := hv
      have hw := shMenu_ok _ (List.getElem_mem hv')
      have hx : (shMenu.map D.str)[v]? = some (.str (shMenu[v]'hv')) := by rw [List.getElem?_map, List.getElem?_eq_getElem hv']; rfl
      show dIx TT (.ref pm) (.int (v : Nat)) m1 _
      rw [ixL h1'.hm hx]
      generalize shMenu[v]'hv' = w at hw
      obtain ⟨ws, hw⟩ := hw
      simp only [gN, List.getElem?_cons_zero, List.getElem?_cons_succ, List.set_cons_succ, List.set_cons_zero, List.append_nil]
      rw [sSeq]
      simp only [sAsg, eIf, tOf, eBin, eCall, aCons, aNil, eVar, eK, List.getElem?_cons_zero, List.getElem?_cons_succ, List.set_cons_succ, List.set_cons_zero, List.append_nil]
      refine x_pick (n := 3) ha1 (by decide) (by decide) fun v2 m2 hv2 ha2 s2 => ?_
      have h2' := h1'.same s2 ha2
      -- the two numbers
      have fin : ∀ (i : Nat) (m : Mem), i < k → ShSt m0 m a pm pt z sh → (sSeq (sAsg (gN 8) (eCall g__law_pick [] (aCons (eVar 0) (aCons (eVar 5) aNil))))
   (sIf (tOf (eBin dEq (eVar 6) (eK (.str "not"))))
    (sExpr (eM isLst mAppend (eVar 4) (aCons (eTup (aCons (eVar 6) (aCons (eVar 7) aNil))) aNil)))
    (sExpr (eM isLst mAppend (eVar 4) (aCons (eIf (tOf (eBin dEq (eCall g__law_pick [] (aCons (eVar 0) (aCons (eK (.int 2)) aNil))) (eK (.int 0)))) (eTup (aCons (eVar 6) (aCons (eVar 7) (aCons (eVar 8) aNil)))) (eTup (aCons (eVar 6) (aCons (eVar 8) (aCons (eVar 7) aNil))))) aNil)))))
        [some (.ref a), some (.str z), some (dI n), some (.ref pm), some (.ref pt), some (.int (k : Nat)), some (.str w), some (dI i), o8] m { nx := fun e2 m2 => shM (forS noG (gN 5) shBody Z ((List.range' (k + 1) r).map fun (i : Nat) => D.int (i : Nat)) e2) m2, ct := fun e2 m2 => shM (forS noG (gN 5) shBody Z ((List.range' (k + 1) r).map fun (i : Nat) => D.int (i : Nat)) e2) m2, bk := Z.nx, rt := Z.rt, ex := Z.ex } := by
        intro i m hi h
        have sn : PyData.strOk "not" = true := by decide +kernel
        rw [sSeq]
        simp only [sAsg, eCall, aCons, aNil, eVar, eK, List.getElem?_cons_zero, List.getElem?_cons_succ, List.set_cons_succ, List.set_cons_zero, List.append_nil]
        refine x_pick (n := k) h.ha k0 (by omega) fun v3 m3 hv3 ha3 s3 => ?_
        have h3' := h.same s3 ha3
        simp only [gN, List.getElem?_cons_zero, List.getElem?_cons_succ, List.set_cons_succ, List.set_cons_zero, List.append_nil, sIf, tOf, eBin, eVar, eK, dEq_str ws sn, bK]
        refine ⟨fun q => ?_, fun q => ?_⟩
        · have := of_decide_eq_true q; subst this
          simp only [sExpr, eM, eTup, aCons, aNil, eVar, List.getElem?_cons_zero, List.getElem?_cons_succ, List.set_cons_succ, List.set_cons_zero, List.append_nil, isLst, h3'.ht, lstN]
          exact ⟨trivial, (by show 2 ≤ _; omega), app m3 [.inr "not", .inl (i : Nat)] _ _ _ _ _ h3' (.nt hi) rfl⟩
        · have hj : w ∈ joinL := by
            rcases hw with hw | hw
            · rw [decide_eq_true hw] at q; cases q
            · exact hw
          simp only [sExpr, eM, eIf, tOf, eBin, eCall, eTup, aCons, aNil, eVar, eK, List.getElem?_cons_zero, List.getElem?_cons_succ, List.set_cons_succ, List.set_cons_zero, List.append_nil, isLst, h3'.ht, lstN]
          refine ⟨trivial, x_pick (n := 2) ha3 (by decide) (by decide) fun v4 m4 hv4 ha4 s4 => ?_⟩
          have h4' := h3'.same s4 ha4
          show dEq (.int (v4 : Nat)) (.int 0) m4 _
          rw [dEq_int]
          simp only [bK]
          exact ⟨fun _ => ⟨(by show 3 ≤ _; omega), app m4 [.inr w, .inl (i : Nat), .inl (v3 : Nat)] _ _ _ _ _ h4' (.jn hj hi hv3) rfl⟩, fun _ => ⟨(by show 3 ≤ _; omega), app m4 [.inr w, .inl (v3 : Nat), .inl (i : Nat)] _ _ _ _ _ h4' (.jn hj hv3 hi) rfl⟩⟩
      show dGt (.int (v2 : Nat)) (.int 0) m2 _
      rw [gt_int]
      simp only [bK]
      refine ⟨fun _ => ?_, fun _ => ?_⟩
      · simp only [dSub, gN, List.getElem?_cons_zero, List.getElem?_cons_succ, List.set_cons_succ, List.set_cons_zero, List.append_nil]
        rw [show ((k : Nat) : Int) - 1 = ((k - 1 : Nat) : Int) by omega]
        exact fin (k - 1) m2 (by omega) h2'
      · refine x_pick (n := k) ha2 k0 (by omega) fun v3 m3 hv3 ha3 s3 => ?_
        simp only [gN, List.getElem?_cons_zero, List.getElem?_cons_succ, List.set_cons_succ, List.set_cons_zero, List.append_nil]
        exact fin v3 m3 hv3 (h2'.same s3 ha3)
    rw [shBody, sSeq]
    simp only [sIf, tOr, tAnd, tOf, eBin, eVar, eK, List.getElem?_cons_zero, List.getElem?_cons_succ, List.set_cons_succ, List.set_cons_zero, List.append_nil, dI, dEq_int, dSub, lt_int, bK]
    refine ⟨fun q => ⟨fun _ => leaf _ m h, fun z => (by cases z)⟩, fun q => ⟨fun q2 => ?_, fun q2 => ⟨fun z => (by cases z), fun _ => ?_⟩⟩⟩
    · simp only [eCall, aCons, aNil, eVar, eK, List.getElem?_cons_zero, List.getElem?_cons_succ, List.set_cons_succ, List.set_cons_zero, List.append_nil]
      refine x_pick (n := 3) h.ha (by decide) (by decide) fun v m1 hv ha1 s1 => ?_
      have h1' := h.same s1 ha1
      show dEq (.int (v : Nat)) (.int 1) m1 _
      rw [dEq_int]
      simp only [bK]
      refine ⟨fun _ => leaf _ m1 h1', fun _ => ?_⟩
      simp only [sNil]
      exact node m1 (by have := of_decide_eq_false q; omega) h1'
    · simp only [sNil]
      exact node m (by have := of_decide_eq_false q; omega) h
theorem l__law_sheet {ds : List D} {m : Mem} {Q : QD} {X : XD} (h : g__law_sheet ds m Q X) : r__law_sheet (startD N__law_sheet.length ds) m (zsS Q X) := by
  obtain ⟨a, z, n, rfl, ha, hz, n1, n2, h⟩ := h
  show r__law_sheet [some (.ref a), some (.str z), some (dI n), none, none, none, none, none, none] m (zsS Q X)
  have h8 : 8 ≤ sizeLine := by rw [sizeLine_eq]; decide
  simp only [r__law_sheet, sSeq, sAsg, eLst, aCons, aNil, eK, dRef, gN, List.getElem?_cons_zero, List.getElem?_cons_succ, List.set_cons_succ, List.set_cons_zero, List.append_nil]
  refine ⟨h8, fun pm hpm => ⟨Nat.zero_le _, fun pt hpt => ?_⟩⟩
  obtain ⟨ha1, ma⟩ := ha.fresh (o := .lst [.str "not", .str "and", .str "or", .str "apart", .str "adds", .str "apart", .str "not", .str "and"]) hpm
  obtain ⟨ha2, ta⟩ := ha1.fresh (o := .lst []) hpt
  have tm : pm ≠ pt := ne_new mup_same hpt
  have S1 := (Sx.refl (a := a) m).fresh (o := .lst [.str "not", .str "and", .str "or", .str "apart", .str "adds", .str "apart", .str "not", .str "and"]) hpm
  simp only [sForS, iR1, aCons, aNil, eVar, List.getElem?_cons_zero, List.getElem?_cons_succ, List.set_cons_succ, List.set_cons_zero, List.append_nil, dI]
  refine ⟨⟨by omega, by omega⟩, ?_⟩
  rw [Int.toNat_natCast, List.range_eq_range']
  refine sh_loop (m0 := m) (pm := pm) (pt := pt) hz n2 (fun m' sh o5 o6 o7 o8 S hl => ?_) n 0 _ [] none none none none rfl (by omega) ⟨S1.fresh hpt, ha2, ?_, mup_same, S1.back hpt ta, ta, ma, tm, sheet_nil⟩
  · simp only [sRet, eVar, List.getElem?_cons_zero, List.getElem?_cons_succ, List.set_cons_succ, List.set_cons_zero, List.append_nil, zsS]
    exact S.S.fin2 S.ha S.ht S.ta fun d s c => h pt sh d s c S.f ⟨S.V, by omega, by omega⟩
  · rw [mup_ne tm, mup_same]; rfl
theorem trSz_le {z : Str} {sh : List (List Key)} (hv : SheetV z sh) : ∀ n, n < sh.length → trSz (trOf sh n) + 1 ≤ 2 ^ (n + 1) := by
  intro n
  induction n using Nat.strongRecOn with
  | ind n ih =>
    intro hn
    refine node_split hv hn (fun ks _ _ _ et => ?_) (fun i _ hi1 hi2 et => ?_) (fun w i j _ hw hi1 hj1 hi2 hj2 et => ?_)
    · rw [et]; have : 2 ^ 1 ≤ 2 ^ (n + 1) := Nat.pow_le_pow_right (by decide) (by omega)
      simp only [trSz]; omega
    · have h1 := ih i hi1 hi2
      have h2 : 2 ^ (i + 1) ≤ 2 ^ n := Nat.pow_le_pow_right (by decide) (by omega)
      rw [et, Nat.pow_succ]; simp only [trSz]; omega
    · have h1 := ih i hi1 hi2
      have h2 : 2 ^ (i + 1) ≤ 2 ^ n := Nat.pow_le_pow_right (by decide) (by omega)
      have h3 := ih j hj1 hj2
      have h4 : 2 ^ (j + 1) ≤ 2 ^ n := Nat.pow_le_pow_right (by decide) (by omega)
      rw [et, Nat.pow_succ]; simp only [trSz]; omega
theorem l__law_short {ds : List D} {m : Mem} {Q : QD} {X : XD} (h : g__law_short ds m Q X) : r__law_short (startD N__law_short.length ds) m (zsS Q X) := by
  obtain ⟨a, z, n, rfl, ha, hz, n1, n2, h⟩ := h
  show r__law_short [some (.ref a), some (.str z), some (dI n), none] m (zsS Q X)
  simp only [r__law_short, sSeq, sAsg, eCall, eBin, aCons, aNil, eVar, eK, gN, List.getElem?_cons_zero, List.getElem?_cons_succ, List.set_cons_succ, List.set_cons_zero, List.append_nil]
  refine x_pick (n := n) ha (by omega) (by omega) fun v m1 hv ha1 s1 => ?_
  simp only [dAdd, dI]
  rw [show (1 : Int) + (v : Int) = ((1 + v : Nat) : Int) by omega]
  have S1 := (Sx.refl (a := a) m).same s1
  obtain ⟨d1, s1', c1, q1⟩ := ha1
  refine ⟨a, z, 1 + v, rfl, ⟨d1, s1', c1, q1⟩, hz, by omega, by omega, fun p sh d s c hp hsh => ?_⟩
  have pa : p ≠ a := ne_new' q1 hp
  have hpp : mup (mup m1 a (srcM d s c)) p (lstN sh) p = some (lstN sh) := mup_same
  have ha2 : SrcAt (mup (mup m1 a (srcM d s c)) p (lstN sh)) a := ⟨d, s, c, by rw [mup_ne pa.symm, mup_same]⟩
  have S2 : Sx a m (mup (mup m1 a (srcM d s c)) p (lstN sh)) := (S1.at).new (S1.back hp pa)
  have f2 := S1.back hp pa
  generalize mup (mup m1 a (srcM d s c)) p (lstN sh) = m2 at hpp ha2 S2 ⊢
  obtain ⟨V, l1, l2⟩ := hsh
  simp only [sRet, eIf, tOf, eBin, eCall, aCons, aNil, eVar, eK, List.getElem?_cons_zero, List.getElem?_cons_succ, List.set_cons_succ, List.set_cons_zero, List.append_nil]
  refine ⟨p, z, sh, rfl, hpp, ⟨V, l1, by omega⟩, ?_⟩
  simp only [dI, lt_int, bK, zsS]
  refine ⟨fun q => ?_, fun q => ?_⟩
  · exact S2.fin2 ha2 hpp pa fun d s c => h p sh d s c f2 ⟨V, l1, by omega⟩ (by have := of_decide_eq_true q; omega)
  · refine ⟨a, z, rfl, ha2, hz, fun p' sh' d s c hp' hsh' => ?_⟩
    obtain ⟨V', l1', l2'⟩ := hsh'
    have pa' : p' ≠ a := by
      obtain ⟨d, s, c, q⟩ := ha2
      exact ne_new' q hp'
    have f' := S2.back hp' pa'
    have hw : trSz (trOf sh' (sh'.length - 1)) < 40 := by
      have h1 := trSz_le V' (sh'.length - 1) (by omega)
      have h2 : 2 ^ (sh'.length - 1 + 1) ≤ 2 ^ 5 := Nat.pow_le_pow_right (by decide) (by omega)
      omega
    refine Sx.fin2 ((S2.at (o := srcM d s c)).new (o := lstN sh') f') ⟨d, s, c, by rw [mup_ne pa'.symm, mup_same]⟩ mup_same pa' fun d s c => h p' sh' d s c f' ⟨V', l1', by omega⟩ hw
end L2.EV
set_option maxHeartbeats 1000000
/-! K01L39: the law's texts. -/
namespace L2.EV
open PySem PySem.Spec PyProof.Rows
theorem codes_app (a b : Str) : codes (a ++ b) = codes a ++ codes b := by
  show (a.cps ++ b.cps).toList = _
  rw [Array.toList_append]; rfl
theorem codes_len (a : Str) : a.length = (codes a).length := by unfold codes; rw [Array.length_toList]; rfl
theorem str_ext {a b : Str} (h : codes a = codes b) : a = b := by rw [← str_of_codes (w := a), ← str_of_codes (w := b), h]
def SxD (sd : D) (m m' : Mem) : Prop := ∀ b o, m b = some o → sd ≠ .ref b → m' b = some o
theorem SxD.refl {sd : D} (m : Mem) : SxD sd m m := fun _ _ h _ => h
theorem SrcTo.same {m m' : Mem} {sd : D} (h : SrcTo m sd m') : (∀ b, sd ≠ .ref b → m' b = m b) ∧ (SrcOr m sd → SrcOr m' sd) := by
  rcases h with ⟨e, rfl⟩ | ⟨a, d, s, c, e, rfl⟩
  · exact ⟨fun _ _ => rfl, fun h => h⟩
  · subst e
    exact ⟨fun b n => mup_ne fun e => n (by rw [e]), fun _ => .inr ⟨a, rfl, d, s, c, mup_same⟩⟩
theorem SxD.fin {sd : D} {m m' : Mem} {P : Mem → Prop} (S : SxD sd m m') (h : SrcOr m' sd) (k : ∀ m'', SrcTo m sd m'' → P m'') : shM P m' := by
  rcases h with rfl | ⟨a, rfl, d, s, c, q⟩
  · exact ⟨m, fun b o e => S b o e (fun z => by cases z), k m (.inl ⟨rfl, rfl⟩)⟩
  · refine ⟨mup m a (srcM d s c), fun b o e => ?_, k _ (.inr ⟨a, d, s, c, rfl, rfl⟩)⟩
    by_cases n : b = a
    · subst n; rw [mup_same] at e; cases e; exact q
    · rw [mup_ne n] at e; exact S b o e (fun z => n (D.ref.inj z).symm)
structure WSt (m0 m : Mem) (sd : D) (p pt : Addr) (told : List D) (sh : List (List Key)) : Prop where
  S : SxD sd m0 m
  src : SrcOr m sd
  hp : m p = some (lstN sh)
  ht : m pt = some (.lst told)
  f : m0 pt = none
  sp : sd ≠ .ref p
  st : sd ≠ .ref pt
  tp : pt ≠ p
theorem WSt.same {m0 m m' : Mem} {sd : D} {p pt : Addr} {told : List D} {sh : List (List Key)} (h : WSt m0 m sd p pt told sh) (k : SrcTo m sd m') : WSt m0 m' sd p pt told sh := by
  obtain ⟨e, s⟩ := k.same
  exact ⟨fun b o q n => by rw [e b n]; exact h.S b o q n, s h.src, by rw [e p h.sp]; exact h.hp, by rw [e pt h.st]; exact h.ht, h.f, h.sp, h.st, h.tp⟩
theorem WSt.push {m0 m : Mem} {sd x : D} {p pt : Addr} {told : List D} {sh : List (List Key)} (h : WSt m0 m sd p pt told sh) : WSt m0 (mup m pt (.lst (told ++ [x]))) sd p pt (told ++ [x]) sh := by
  refine ⟨fun b o q n => by rw [mup_ne (ne_new q h.f)]; exact h.S b o q n, ?_, by rw [mup_ne h.tp.symm]; exact h.hp, mup_same, h.f, h.sp, h.st, h.tp⟩
  rcases h.src with e | ⟨a, e, d, s, c, q⟩
  · exact .inl e
  · exact .inr ⟨a, e, d, s, c, by rw [mup_ne (fun z => h.st (by rw [e, z]))]; exact q⟩
/-- the first word of a node and how it binds -/
theorem node_bnd {z : Str} (hz : zOk z) {sh : List (List Key)} (hv : SheetV z sh) {i : Nat} (hi : i < sh.length) : ∃ w r, sh[i]? = some (.inr w :: r) ∧ PyData.strOk w = true ∧ bnd w = bindT (trOf sh i) := by
  have nb : PyData.strOk "not" = true ∧ bnd "not" = 4 := by decide +kernel
  refine node_split hv hi (fun ks hk hr hnv et => ?_) (fun j hk h1 h2 et => ?_) (fun w j l hk hw h1 h2 h3 h4 et => ?_)
  · obtain ⟨w, r, e, s1, s2, s3⟩ := node_word (n := 0) hz (hnv 0) hr
    subst e
    exact ⟨w, r, hk, s1, by rw [et]; unfold bnd; rw [s3]; rfl⟩
  · exact ⟨_, _, hk, nb.1, by rw [et]; exact nb.2⟩
  · exact ⟨w, _, hk, jnWords_ok w (joinL_sub w hw), by rw [et]; unfold bnd bindT; rw [(joinL_bind hw).1]; rfl⟩
def wrBody (g : SPEC) : ES := (sSeq (sAsg (gN 7) (eCall g [] (aCons (eVar 0) (aCons (eBin (dIx TT) (eVar 3) (eVar 6)) (aCons (eVar 2) aNil)))))
   (sSeq (sAsg (gN 8) (eIf (tOf (eBin dEq (eVar 4) (eK (.int 0)))) (eK (.int 1)) (eIf (tOf (eBin dEq (eVar 6) (eK (.int 2)))) (eBin dAdd (eVar 4) (eK (.int 1))) (eVar 4))))
   (sSeq (sIf (tOr (tOf (eBin dLt (eCall g__law_bound [] (aCons (eBin (dIx TT) (eVar 0) (eBin (dIx TT) (eVar 3) (eVar 6))) aNil)) (eVar 8))) (tAnd (tOf (eBin dIsNot (eVar 2) (eK .non))) (tOf (eBin dEq (eCall g__law_pick [] (aCons (eVar 2) (aCons (eK (.int 5)) aNil))) (eK (.int 3))))))
    (sAsg (gN 7) (eBin dAdd (eBin dAdd (eK (.str "(")) (eVar 7)) (eK (.str ")"))))
    sNil)
   (sExpr (eM isLst mAppend (eVar 5) (aCons (eVar 7) aNil))))))
def leastK (mine k : Nat) : Nat := if mine = 0 then 1 else if k = 2 then mine + 1 else mine
/-- one part written -/
theorem wr_step {K0 : Nat} {m0 m : Mem} {sd node : D} {p pt : Addr} {told : List D} {sh : List (List Key)} {z : Str} {n i k mine : Nat} {o7 o8 : Option D} {Z : Zs} (W : WSt m0 m sd p pt told sh) (hv : SheetV z sh) (hz : zOk z) (hi : i < sh.length) (hk : i < K0) (hsz : trSz (trOf sh i) ≤ 100) (hl : told.length ≤ 5) (hmine : mine ≤ 4)
    (hnode : ∀ (m : Mem) (Q : QD), dIx TT node (.int (k : Nat)) m Q = Q (dI i) m)
    (h : ∀ (q : PT) (t : Str) m' o7' o8', erase q = trOf sh i → okP z q → leastK mine k ≤ bindP q → depP q ≤ 2 * trH (trOf sh i) + 1 → (txt q).length ≤ 40 * trSz (trOf sh i) + 2 → codes t = txt q → WSt m0 m' sd p pt (told ++ [.str t]) sh → Z.nx [some (.ref p), some (dI n), some sd, some node, some (dI mine), some (.ref pt), some (.int (k : Nat)), o7', o8'] m') :
    wrBody (g_writtenN K0) [some (.ref p), some (dI n), some sd, some node, some (dI mine), some (.ref pt), some (.int (k : Nat)), o7, o8] m Z := by
  have h60 : 6000 ≤ sizeLine := by rw [sizeLine_eq]; decide
  rw [wrBody, sSeq]
  simp only [sAsg, eCall, eBin, aCons, aNil, eVar, List.getElem?_cons_zero, List.getElem?_cons_succ, List.set_cons_succ, List.set_cons_zero, List.append_nil, hnode]
  refine ⟨p, i, sd, z, sh, rfl, fun a e n => W.sp (by rw [e, n]), W.hp, W.src, hv, hz, hi, hk, hsz, fun q t m1 ok ct to => ?_⟩
  have W1 := W.same to
  simp only [gN, List.getElem?_cons_zero, List.getElem?_cons_succ, List.set_cons_succ, List.set_cons_zero, List.append_nil]
  rw [sSeq]
  have hle : ∀ (Q : QD), eIf (tOf (eBin dEq (eVar 4) (eK (.int 0)))) (eK (.int 1)) (eIf (tOf (eBin dEq (eVar 6) (eK (.int 2)))) (eBin dAdd (eVar 4) (eK (.int 1))) (eVar 4)) [some (.ref p), some (dI n), some sd, some node, some (dI mine), some (.ref pt), some (.int (k : Nat)), some (.str t), o8] m1 Q (xs_ Z [some (.ref p), some (dI n), some sd, some node, some (dI mine), some (.ref pt), some (.int (k : Nat)), some (.str t), o8]) ↔ Q (dI (leastK mine k)) m1 := by
    intro Q
    simp only [eIf, tOf, eBin, eVar, eK, List.getElem?_cons_zero, List.getElem?_cons_succ, List.set_cons_succ, List.set_cons_zero, List.append_nil, dI, dEq_int, bK, dAdd]
    unfold leastK
    by_cases q1 : mine = 0
    · rw [decide_eq_true (by omega), if_pos q1]
      exact ⟨fun h => h.1 rfl, fun h => ⟨fun _ => h, fun z => (by cases z)⟩⟩
    · rw [decide_eq_false (by omega), if_neg q1]
      by_cases q2 : k = 2
      · rw [decide_eq_true (by omega), if_pos q2]
        rw [show ((mine + 1 : Nat) : Int) = (mine : Int) + 1 by omega]
        exact ⟨fun h => (h.2 rfl).1 rfl, fun h => ⟨fun z => (by cases z), fun _ => ⟨fun _ => h, fun z => (by cases z)⟩⟩⟩
      · rw [decide_eq_false (by omega), if_neg q2]
        exact ⟨fun h => (h.2 rfl).2 rfl, fun h => ⟨fun z => (by cases z), fun _ => ⟨fun z => (by cases z), fun _ => h⟩⟩⟩
  rw [sAsg]
  refine (hle _).mpr ?_
  simp only [gN, List.getElem?_cons_zero, List.getElem?_cons_succ, List.set_cons_succ, List.set_cons_zero, List.append_nil]
  -- the end of a turn
  have fin : ∀ (m2 : Mem) (q2 : PT) (t2 : Str) (e8 : D), erase q2 = trOf sh i → okP z q2 → leastK mine k ≤ bindP q2 → depP q2 ≤ 2 * trH (trOf sh i) + 1 → (txt q2).length ≤ 40 * trSz (trOf sh i) + 2 → codes t2 = txt q2 → WSt m0 m2 sd p pt told sh → sExpr (eM isLst mAppend (eVar 5) (aCons (eVar 7) aNil)) [some (.ref p), some (dI n), some sd, some node, some (dI mine), some (.ref pt), some (.int (k : Nat)), some (.str t2), some e8] m2 Z := by
    intro m2 q2 t2 e8 a1 a2 a3 a4 a5 a6 W2
    simp only [sExpr, eM, aCons, aNil, eVar, List.getElem?_cons_zero, List.getElem?_cons_succ, List.set_cons_succ, List.set_cons_zero, List.append_nil, isLst, W2.ht, mAppend, lstQ, d1Q]
    exact ⟨trivial, by omega, h q2 t2 _ _ _ a1 a2 a3 a4 a5 a6 W2.push⟩
  have lt : t.length ≤ 4000 := by rw [codes_len, ct]; have := ok.len; omega
  have brk : ∀ (m2 : Mem) (e8 : D), WSt m0 m2 sd p pt told sh → (sAsg (gN 7) (eBin dAdd (eBin dAdd (eK (.str "(")) (eVar 7)) (eK (.str ")")))) [some (.ref p), some (dI n), some sd, some node, some (dI mine), some (.ref pt), some (.int (k : Nat)), some (.str t), some e8] m2 { Z with nx := fun e1 m1 => sExpr (eM isLst mAppend (eVar 5) (aCons (eVar 7) aNil)) e1 m1 Z } := by
    intro m2 e8 W2
    have l1 : ("(" : Str).length = 1 := by decide +kernel
    have l2 : (")" : Str).length = 1 := by decide +kernel
    simp only [sAsg, eBin, eVar, eK, List.getElem?_cons_zero, List.getElem?_cons_succ, List.set_cons_succ, List.set_cons_zero, List.append_nil, dAdd, gN]
    refine ⟨by omega, by rw [PySem.Str.length_append]; omega, ?_⟩
    refine fin m2 (.br q) _ e8 ok.er ok.ok (by show leastK mine k ≤ 5; unfold leastK; split; omega; split <;> omega) ?_ ?_ ?_ W2
    · show depP q + 1 ≤ _
      have := ok.dp; omega
    · show (40 :: (txt q ++ [41])).length ≤ _
      have := ok.len
      simp only [List.length_cons, List.length_append, List.length_nil]; omega
    · rw [codes_app, codes_app, s_opC, s_clC, ct]; rfl
  obtain ⟨w, r, hw, ws, wb⟩ := node_bnd hz hv hi
  rw [sSeq]
  simp only [sIf, tOr, tAnd, tOf, eBin, eCall, aCons, aNil, eVar, eK, List.getElem?_cons_zero, List.getElem?_cons_succ, List.set_cons_succ, List.set_cons_zero, List.append_nil, hnode, ix_sh W1.hp hw]
  refine ⟨w, r, rfl, ws, ?_⟩
  simp only [dI, lt_int, bK]
  have plain : ∀ (m2 : Mem), WSt m0 m2 sd p pt told sh → ¬ bnd w < leastK mine k → sExpr (eM isLst mAppend (eVar 5) (aCons (eVar 7) aNil)) [some (.ref p), some (dI n), some sd, some node, some (dI mine), some (.ref pt), some (.int (k : Nat)), some (.str t), some (dI (leastK mine k))] m2 Z := by
    intro m2 W2 hb
    exact fin m2 q t _ ok.er ok.ok (by rw [ok.bd, ← wb]; omega) (by have := ok.dp; omega) (by have := ok.len; omega) ct W2
  refine ⟨fun _ => ⟨fun _ => brk m1 _ W1, fun z => (by cases z)⟩, fun q1 => ?_⟩
  have nb : ¬ bnd w < leastK mine k := by have := of_decide_eq_false q1; omega
  rcases W1.src with e | ⟨a, e, ha⟩
  · subst e
    simp only [dIsNot, isN, bK]
    exact ⟨fun z => (by cases z), fun _ => ⟨fun z => (by cases z), fun _ => plain m1 W1 nb⟩⟩
  · subst e
    simp only [dIsNot, isN, bK]
    refine ⟨fun _ => ?_, fun z => (by cases z)⟩
    refine x_pick (n := 5) ha (by decide) (by decide) fun v m2 hv2 ha2 s2 => ?_
    have W2 : WSt m0 m2 (.ref a) p pt told sh := ⟨fun b o q n => by
        rw [s2 b (fun z => n (by rw [z]))]; exact W1.S b o q n, .inr ⟨a, rfl, ha2⟩, by rw [s2 p (fun z => W1.sp (by rw [z]))]; exact W1.hp, by rw [s2 pt (fun z => W1.st (by rw [z]))]; exact W1.ht, W1.f, W1.sp, W1.st, W1.tp⟩
    simp only [dI, dEq_int, bK]
    exact ⟨fun _ => brk m2 _ W2, fun _ => plain m2 W2 nb⟩
theorem join2 (s a b : Str) : codes (Txt.join s [a, b]) = codes a ++ (codes s ++ codes b) := by
  show (([a, b].drop 1).foldl (fun acc p => acc ++ s.cps ++ p.cps) ([a, b].headD Str.empty).cps).toList = _
  simp [codes, List.foldl]
theorem join3 (s a b c : Str) : codes (Txt.join s [a, b, c]) = codes a ++ (codes s ++ (codes b ++ (codes s ++ codes c))) := by
  show (([a, b, c].drop 1).foldl (fun acc p => acc ++ s.cps ++ p.cps) ([a, b, c].headD Str.empty).cps).toList = _
  simp [codes, List.foldl]
end L2.EV
set_option maxHeartbeats 1000000
/-! K01L40: the law's texts: _law_written. -/
namespace L2.EV
open PySem PySem.Spec PyProof.Rows
theorem ixN {ks : List Key} {i : Nat} {x : D} {m : Mem} {Q : QD} (h : (ks.map dK)[i]? = some x) : dIx TT (dN ks) (.int (i : Nat)) m Q = Q x m := by
  show dIx TT (.tup (ks.map dK)) _ m Q = _
  simp only [dIx, intQ]; rw [atI_nat h]; rfl
theorem len_dN {ks : List Key} {m : Mem} {f : Nat → Prop} : lenQ (dN ks) m f = f ks.length := by
  show f (ks.map dK).length = _
  rw [List.length_map]
theorem term_len {z t : Str} (h : termOk z (.str t) = true) : t.length ≤ 3 := by
  have nil : ("nil" : Str).length = 3 := by decide +kernel
  simp only [termOk, Bool.or_eq_true, decide_eq_true_eq, Bool.and_eq_true] at h
  rcases h with rfl | ⟨h1, _⟩
  · omega
  · omega
theorem jn_len {w : Str} (h : w ∈ joinL) : w.length ≤ 5 := by
  have : ∀ w ∈ joinL, w.length ≤ 5 := by decide +kernel
  exact this w h
theorem l__law_written {k : Nat} {ds : List D} {m : Mem} {Q : QD} {X : XD} (h : g_writtenN (k + 1) ds m Q X) : r__law_written (g_writtenN k) (startD N__law_written.length ds) m (zsS Q X) := by
  obtain ⟨p, n, sd, z, sh, rfl, hsp, hp, src, hv, hz, hn, hk, hsz, h⟩ := h
  show r__law_written (g_writtenN k) [some (.ref p), some (dI n), some sd, none, none, none, none, none, none] m (zsS Q X)
  have h5 : 5 ≤ sizeLine := by rw [sizeLine_eq]; decide
  have h1 : 1000 ≤ sizeLine := by rw [sizeLine_eq]; decide
  have e5 : ([.str "adds", .str "or", .str "and", .str "apart", .str "not"] : List D) = jnWords.map D.str := rfl
  refine node_split hv hn (fun ks hks hr hnv et => ?_) (fun i hks hi1 hi2 et => ?_) (fun w i j hks hw hi1 hj1 hi2 hj2 et => ?_)
  · -- a leaf
    obtain ⟨w, r, e, s1, s2, _⟩ := node_word (n := 0) hz (hnv 0) hr
    rw [r__law_written, sSeq]
    simp only [sAsg, eBin, eVar, List.getElem?_cons_zero, List.getElem?_cons_succ, List.set_cons_succ, List.set_cons_zero, List.append_nil, ix_sh hp hks, gN]
    rw [sSeq]
    subst e
    simp only [sIf, tOf, eBin, eTup, aCons, aNil, eVar, eK, List.getElem?_cons_zero, List.getElem?_cons_succ, List.set_cons_succ, List.set_cons_zero, List.append_nil, ix_dN0, List.length_cons, List.length_nil]
    refine ⟨h5, ?_⟩
    rw [e5]
    simp only [dNotIn]
    rw [inB_strs s1 jnWords_ok, decide_eq_false s2]
    simp only [bK]
    refine ⟨fun _ => ?_, fun z => (by cases z)⟩
    have fin : ∀ (t : Str), codes t = atomT (.inr w :: r) → (codes t).length ≤ 40 → shM (Q (.str t)) m := fun t ct hl => SxD.fin (SxD.refl m) src fun m' to => h (.atom (.inr w :: r)) t m' (by
      rw [et]; exact ⟨rfl, hnv 0, rfl, Nat.zero_le _, by show (atomT _).length ≤ 40 * 1; rw [← ct]; omega⟩) ct to
    have sh0 : PyData.strOk "holds" = true := by decide +kernel
    rw [sSeq]
    simp only [sIf, tOf, eBin, eB, aCons, aNil, eVar, eK, List.getElem?_cons_zero, List.getElem?_cons_succ, List.set_cons_succ, List.set_cons_zero, List.append_nil, bLen, d1Q, len_dN, dEq_int, bK]
    generalize hks' : (.inr w :: r : List Key) = ks at *
    cases hnv 0 with
    | @al w' hw' =>
      cases hks'
      refine ⟨fun _ => ?_, fun q => absurd (of_decide_eq_false q) (by simp)⟩
      simp only [sRet, eBin, eVar, eK, List.getElem?_cons_zero, List.getElem?_cons_succ, List.set_cons_succ, List.set_cons_zero, List.append_nil, ix_dN0, zsS]
      refine fin w rfl ?_
      have : ∀ w ∈ aloneL, (codes w).length ≤ 40 := by decide +kernel
      exact this w hw'
    | @ho t ht =>
      cases hks'
      refine ⟨fun q => absurd (of_decide_eq_true q) (by simp), fun _ => ?_⟩
      have lt := term_len ht
      have lh : ("holds " : Str).length = 6 ∧ codes "holds " = codes "holds" ++ [32] := by decide +kernel
      have i1 : ∀ (m : Mem) (Q : QD), dIx TT (dN [.inr "holds", .inr t]) (.int 1) m Q = Q (.str t) m := fun m Q => ixN (i := 1) rfl
      simp only [sNil, sRet, eIf, tOf, eBin, eVar, eK, List.getElem?_cons_zero, List.getElem?_cons_succ, List.set_cons_succ, List.set_cons_zero, List.append_nil, ix_dN0, dEq_str sh0 sh0, bK, i1, dAdd, zsS]
      refine ⟨fun _ => ⟨by omega, fin _ ?_ ?_⟩, fun q => (by simp at q)⟩
      · rw [codes_app, lh.2]; simp [atomT]
      · rw [← codes_len, PySem.Str.length_append]; omega
    | @re w' t u hw' ht hu =>
      cases hks'
      refine ⟨fun q => absurd (of_decide_eq_true q) (by simp), fun _ => ?_⟩
      have lt := term_len ht
      have lu := term_len hu
      have hr0 : ∀ w ∈ relL, w.length ≤ 4 ∧ w ≠ "holds" := by decide +kernel
      obtain ⟨lw, nh⟩ := hr0 w hw'
      have sp : (" " : Str).length = 1 ∧ codes " " = [32] := by decide +kernel
      have i1 : ∀ (m : Mem) (Q : QD), dIx TT (dN [.inr w, .inr t, .inr u]) (.int 1) m Q = Q (.str t) m := fun m Q => ixN (i := 1) rfl
      have i2 : ∀ (m : Mem) (Q : QD), dIx TT (dN [.inr w, .inr t, .inr u]) (.int 2) m Q = Q (.str u) m := fun m Q => ixN (i := 2) rfl
      simp only [sNil, sRet, eIf, tOf, eBin, eVar, eK, List.getElem?_cons_zero, List.getElem?_cons_succ, List.set_cons_succ, List.set_cons_zero, List.append_nil, ix_dN0, dEq_str s1 sh0, bK, i1, i2, eM, eLst, aCons, aNil, isStr, dRef, zsS]
      refine ⟨fun q => absurd (of_decide_eq_true q) nh, fun _ => ⟨trivial, (by show 3 ≤ _; omega), fun p1 hp1 => ?_⟩⟩
      simp only [mJoin, strQ, d1Q, seqOf, mup_same, Option.bind_some, strsOf, Option.map_some, optQ_some']
      refine ⟨by simp only [List.map_cons, List.map_nil, List.sum_cons, List.sum_nil, List.length_cons, List.length_nil]; omega, ?_⟩
      have cj : codes (Txt.join " " [t, w, u]) = atomT [.inr w, .inr t, .inr u] := by rw [join3, sp.2]; simp [atomT]
      have := fin (Txt.join " " [t, w, u]) cj (by rw [cj]; simp only [atomT, List.length_append, List.length_cons]; rw [← codes_len, ← codes_len, ← codes_len]; omega)
      obtain ⟨m2, s2, q2⟩ := this
      exact ⟨m2, s2.trans (sub_p hp1), q2⟩
    | nt hh => exact absurd hh (Nat.not_lt_zero _)
    | jn hh h1 h2 => exact absurd h1 (Nat.not_lt_zero _)
  · -- not
    rw [et] at hsz
    simp only [trSz] at hsz
    rw [r__law_written, sSeq]
    simp only [sAsg, eBin, eVar, List.getElem?_cons_zero, List.getElem?_cons_succ, List.set_cons_succ, List.set_cons_zero, List.append_nil, ix_sh hp hks, gN]
    rw [sSeq]
    simp only [sIf, tOf, eBin, eTup, aCons, aNil, eVar, eK, List.getElem?_cons_zero, List.getElem?_cons_succ, List.set_cons_succ, List.set_cons_zero, List.append_nil, ix_dN0, List.length_cons, List.length_nil]
    refine ⟨h5, ?_⟩
    rw [e5]
    simp only [dNotIn]
    rw [inB_strs (by decide +kernel) jnWords_ok, decide_eq_true (by decide +kernel)]
    simp only [bK]
    refine ⟨fun z => (by cases z), fun _ => ?_⟩
    simp only [sNil]
    rw [sSeq]
    simp only [sAsg, eCall, aCons, aNil, eVar, List.getElem?_cons_zero, List.getElem?_cons_succ, List.set_cons_succ, List.set_cons_zero, List.append_nil, gN]
    refine ⟨"not", [.inl (i : Nat)], rfl, by decide +kernel, ?_⟩
    have b4 : bnd "not" = 4 := by decide +kernel
    rw [b4]
    simp only [sSeq, sAsg, eLst, aNil, dRef, gN, List.getElem?_cons_zero, List.getElem?_cons_succ, List.set_cons_succ, List.set_cons_zero, List.append_nil, List.length_nil]
    refine ⟨Nat.zero_le _, fun pt hpt => ?_⟩
    simp only [sSeq, sForS, iR2, eB, aCons, aNil, eVar, eK, List.getElem?_cons_zero, List.getElem?_cons_succ, List.set_cons_succ, List.set_cons_zero, List.append_nil, bLen, d1Q, len_dN]
    refine ⟨⟨by decide, by decide, by simp, by simp⟩, ?_⟩
    have W0 : WSt m (mup m pt (.lst [])) sd p pt [] sh := by
      refine ⟨fun b o q n => by rw [mup_ne (ne_new q hpt)]; exact q, ?_, by rw [mup_ne (ne_new hp hpt)]; exact hp, mup_same, hpt, fun e => hsp p e rfl, ?_, (ne_new hp hpt).symm⟩
      · rcases src with e | ⟨a, e, d, s, c, q⟩
        · exact .inl e
        · exact .inr ⟨a, e, d, s, c, by rw [mup_ne (ne_new q hpt)]; exact q⟩
      · intro e
        rcases src with e2 | ⟨a, e2, d, s, c, q⟩
        · rw [e] at e2; cases e2
        · rw [e] at e2; cases e2; rw [hpt] at q; cases q
    show forS noG (gN 6) (wrBody (g_writtenN k)) _ [.int ((1 : Nat) : Int)] _ _
    refine ⟨trivial, ?_⟩
    simp only [gN, List.getElem?_cons_zero, List.getElem?_cons_succ, List.set_cons_succ, List.set_cons_zero, List.append_nil]
    refine wr_step (k := 1) (mine := 4) (i := i) W0 hv hz hi2 (by omega) (by omega) (by simp) (by decide) (fun m Q => ixN (i := 1) rfl) fun q t m1 o7 o8 a1 a2 a3 a4 a5 a6 W1 => ?_
    refine shM_of ⟨trivial, ?_⟩
    have l4 : ("not " : Str).length = 4 ∧ codes "not " = codes "not" ++ [32] := by decide +kernel
    have lt : t.length ≤ 4100 := by rw [codes_len, a6]; omega
    have h3 : 5000 ≤ sizeLine := by rw [sizeLine_eq]; decide
    simp only [sRet, eIf, tOf, eBin, eVar, eK, List.getElem?_cons_zero, List.getElem?_cons_succ, List.set_cons_succ, List.set_cons_zero, List.append_nil, dI, dEq_int, bK]
    refine ⟨fun _ => ?_, fun z => absurd rfl (of_decide_eq_false z)⟩
    have ixt : ∀ Q : QD, dIx TT (.ref pt) (.int 0) m1 Q = Q (.str t) m1 := fun Q => ixL (i := 0) W1.ht rfl
    simp only [ixt, dAdd]
    refine ⟨by omega, ?_⟩
    refine W1.S.fin W1.src fun m2 to => h (.nt q) _ m2 ?_ ?_ to
    · rw [et]
      refine ⟨by rw [erase, a1], ⟨a3, a2⟩, rfl, ?_, ?_⟩
      · show depP q + 1 ≤ 2 * (1 + _); omega
      · show (codes "not" ++ 32 :: txt q).length ≤ 40 * (1 + _)
        have : (codes "not").length = 3 := by decide +kernel
        simp only [List.length_append, List.length_cons]; omega
    · rw [codes_app, l4.2, a6]; simp [txt]
  · -- a word between
    rw [et] at hsz
    simp only [trSz] at hsz
    have sw := jnWords_ok w (joinL_sub w hw)
    obtain ⟨w1, w2, w3, w4, w5, w6⟩ := joinL_bind hw
    have lw := jn_len hw
    rw [r__law_written, sSeq]
    simp only [sAsg, eBin, eVar, List.getElem?_cons_zero, List.getElem?_cons_succ, List.set_cons_succ, List.set_cons_zero, List.append_nil, ix_sh hp hks, gN]
    rw [sSeq]
    simp only [sIf, tOf, eBin, eTup, aCons, aNil, eVar, eK, List.getElem?_cons_zero, List.getElem?_cons_succ, List.set_cons_succ, List.set_cons_zero, List.append_nil, ix_dN0, List.length_cons, List.length_nil]
    refine ⟨h5, ?_⟩
    rw [e5]
    simp only [dNotIn]
    rw [inB_strs sw jnWords_ok, decide_eq_true (joinL_sub w hw)]
    simp only [bK]
    refine ⟨fun z => (by cases z), fun _ => ?_⟩
    simp only [sNil]
    rw [sSeq]
    simp only [sAsg, eCall, aCons, aNil, eVar, List.getElem?_cons_zero, List.getElem?_cons_succ, List.set_cons_succ, List.set_cons_zero, List.append_nil, gN]
    refine ⟨w, [.inl (i : Nat), .inl (j : Nat)], rfl, sw, ?_⟩
    have bw : bnd w = bindJ w := by unfold bnd bindJ; rw [w1]; rfl
    rw [bw]
    simp only [sSeq, sAsg, eLst, aNil, dRef, gN, List.getElem?_cons_zero, List.getElem?_cons_succ, List.set_cons_succ, List.set_cons_zero, List.append_nil, List.length_nil]
    refine ⟨Nat.zero_le _, fun pt hpt => ?_⟩
    simp only [sSeq, sForS, iR2, eB, aCons, aNil, eVar, eK, List.getElem?_cons_zero, List.getElem?_cons_succ, List.set_cons_succ, List.set_cons_zero, List.append_nil, bLen, d1Q, len_dN]
    refine ⟨⟨by decide, by decide, by simp, by simp⟩, ?_⟩
    have W0 : WSt m (mup m pt (.lst [])) sd p pt [] sh := by
      refine ⟨fun b o q n => by rw [mup_ne (ne_new q hpt)]; exact q, ?_, by rw [mup_ne (ne_new hp hpt)]; exact hp, mup_same, hpt, fun e => hsp p e rfl, ?_, (ne_new hp hpt).symm⟩
      · rcases src with e | ⟨a, e, d, s, c, q⟩
        · exact .inl e
        · exact .inr ⟨a, e, d, s, c, by rw [mup_ne (ne_new q hpt)]; exact q⟩
      · intro e
        rcases src with e2 | ⟨a, e2, d, s, c, q⟩
        · rw [e] at e2; cases e2
        · rw [e] at e2; cases e2; rw [hpt] at q; cases q
    show forS noG (gN 6) (wrBody (g_writtenN k)) _ [.int ((1 : Nat) : Int), .int ((2 : Nat) : Int)] _ _
    refine ⟨trivial, ?_⟩
    simp only [gN, List.getElem?_cons_zero, List.getElem?_cons_succ, List.set_cons_succ, List.set_cons_zero, List.append_nil]
    refine wr_step (k := 1) (mine := bindJ w) (i := i) W0 hv hz hi2 (by omega) (by omega) (by simp) (by omega) (fun m Q => ixN (i := 1) rfl) fun q t m1 o7 o8 a1 a2 a3 a4 a5 a6 W1 => ?_
    refine shM_of ⟨trivial, ?_⟩
    simp only [gN, List.getElem?_cons_zero, List.getElem?_cons_succ, List.set_cons_succ, List.set_cons_zero, List.append_nil]
    refine wr_step (k := 2) (mine := bindJ w) (i := j) W1 hv hz hj2 (by omega) (by omega) (by simp) (by omega) (fun m Q => ixN (i := 2) rfl) fun q2 t2 m2 o7 o8 b1 b2 b3 b4 b5 b6 W2 => ?_
    refine shM_of ⟨trivial, ?_⟩
    have lt : t.length ≤ 4100 := by rw [codes_len, a6]; omega
    have lt2 : t2.length ≤ 4100 := by rw [codes_len, b6]; omega
    have h3 : 9000 ≤ sizeLine := by rw [sizeLine_eq]; decide
    have sp : (" " : Str).length = 1 ∧ codes " " = [32] := by decide +kernel
    simp only [sRet, eIf, tOf, eBin, eVar, eK, List.getElem?_cons_zero, List.getElem?_cons_succ, List.set_cons_succ, List.set_cons_zero, List.append_nil, dI, dEq_int, bK]
    refine ⟨fun z => absurd (of_decide_eq_true z) (by omega), fun _ => ?_⟩
    simp only [eM, eBin, eVar, eK, aCons, aNil, List.getElem?_cons_zero, List.getElem?_cons_succ, List.set_cons_succ, List.set_cons_zero, List.append_nil, ix_dN0, dAdd, isStr, mJoin, strQ, d1Q, seqOf, W2.ht, Option.bind_some]
    refine ⟨by omega, by rw [PySem.Str.length_append]; omega, trivial, ?_⟩
    simp only [List.nil_append, List.cons_append, strsOf, Option.map_some, optQ_some']
    refine ⟨by simp only [List.map_cons, List.map_nil, List.sum_cons, List.sum_nil, List.length_cons, List.length_nil, PySem.Str.length_append]; omega, ?_⟩
    refine W2.S.fin W2.src fun m3 to => h (.jn w q q2) _ m3 ?_ ?_ to
    · rw [et]
      refine ⟨by rw [erase, a1, b1], ⟨hw, ?_, ?_, a2, b2⟩, rfl, ?_, ?_⟩
      · unfold leastK at a3; unfold leastL
        split at a3
        · rw [if_pos (by assumption)]; exact a3
        · rw [if_neg (by assumption)]
          exact a3
      · unfold leastK at b3
        split at b3
        · omega
        · exact b3
      · show max (depP q) (depP q2) ≤ 2 * (1 + max _ _); omega
      · show (txt q ++ 32 :: (codes w ++ 32 :: txt q2)).length ≤ 40 * (1 + (_ + _))
        simp only [List.length_append, List.length_cons]; rw [← codes_len]; omega
    · rw [join2, codes_app, codes_app, sp.2, a6, b6]; simp [txt]
end L2.EV
set_option maxHeartbeats 1000000
/-! K01L41: what is refused. -/
namespace L2.EV
open PySem PySem.Spec PyProof.Rows
theorem tyStr {m : Mem} {z : Str} (h1 : z.length ≤ sizeLine) (h2 : PyData.strOk z = true) : typed m (.str z) := ⟨⟨"str", rfl⟩, fun y e => (by cases e; exact ⟨h1, h2⟩), fun _ e => (by cases e)⟩
theorem ty_non {m : Mem} : typed m .non := ⟨⟨"NoneType", rfl⟩, fun y e => (by cases e), fun _ e => (by cases e)⟩
theorem ty_int {m : Mem} {i : Int} : typed m (.int i) := ⟨⟨"int", rfl⟩, fun y e => (by cases e), fun _ e => (by cases e)⟩
theorem ty_tup {m : Mem} {xs : List D} : typed m (.tup xs) := ⟨⟨"tuple", rfl⟩, fun y e => (by cases e), fun _ e => (by cases e)⟩
theorem ty_lst {m : Mem} {a : Addr} {xs : List D} (h : m a = some (.lst xs)) : typed m (.ref a) := ⟨⟨"list", by simp only [tyN, h]⟩, fun y e => (by cases e), fun _ e => (by cases e)⟩
theorem tx_of {m : Mem} {d : D} (h : typed m d) (n : ∀ t, d ≠ .str t) : textOk m d := ⟨h, fun t e => absurd e (n t)⟩
theorem zNm.ty {z : Str} {m : Mem} (h : zNm z) : typed m (.str z) := tyStr (by have := h.len.2.1; rw [sizeLine_eq]; omega) h.len.2.2.2
theorem ss1 : SS "BadText" "HelpError" = some true ∧ SS "BadText" "BadText" = some true ∧ SS "BadSheet" "BadSheet" = some true ∧ SS "BadNames" "BadNames" = some true := by decide +kernel
/-- read_saying of a thing that is no text -/
theorem x_notext {z : Str} {d : D} {m : Mem} {Q : QD} {X : XD} (hz : zNm z) (ty : typed m d) (n : ∀ t, d ≠ .str t) (h : ∀ p, m p = none → X "BadText" (some p) (mup m p (.xd [("at", .int (-1))]))) : g_read_saying [.str z, d] m Q X := by
  refine ⟨.str z, d, rfl, hz.ty, tx_of ty n, fun q => (by rw [show namesOk (.str z) = true from hz] at q; cases q), fun z' e _ => ?_⟩
  cases e
  have e1 : readD z d = .error (-1) := by
    cases d with
    | str t => exact absurd rfl (n t)
    | _ => rfl
  rw [e1]
  exact h
def rfBody : ES := (sTry SS 2 "HelpError"
    (sSeq (sExpr (eCall g_read_saying [] (aCons (eVar 0) (aCons (eVar 1) aNil))))
    (sRet (eK (.bl false))))
    (fun a C dx => (sIf (tOr (tNot (tTru (eErrIs SS a C "BadText" dx 2))) (tOf (eBin dNe (eErrF SS a C "HelpError" "at" dx 2) (eUn dNeg (eK (.int 1))))))
     (sRet (eK (.bl false)))
     sNil)))
theorem rf_step {z : Str} {d : D} {o1 : Option D} {m : Mem} {Z : Zs} (hz : zNm z) (ty : typed m d) (n : ∀ t, d ≠ .str t) (h : ∀ m', Sub m m' → Z.nx [some (.str z), some d, none] m') : rfBody [some (.str z), some d, o1] m Z := by
  simp only [rfBody, sTry, sSeq, sExpr, eCall, aCons, aNil, eVar, List.getElem?_cons_zero, List.getElem?_cons_succ, List.set_cons_succ, List.set_cons_zero, List.append_nil]
  refine x_notext hz ty n fun p hp => ?_
  refine ⟨true, ss1.1, fun _ a ha => ?_, fun z => by cases z⟩
  simp only [sIf, tOr, tNot, tTru, eErrIs, List.getElem?_cons_zero, List.getElem?_cons_succ, List.set_cons_succ, List.set_cons_zero, List.append_nil]
  refine ⟨trivial, ⟨p, _, rfl, mup_same⟩, true, ss1.2.1, ?_⟩
  simp only [truK, tOf, eBin, eErrF, eUn, eK, dNeg, List.getElem?_cons_zero, List.getElem?_cons_succ, List.set_cons_succ, List.set_cons_zero, List.append_nil]
  refine ⟨fun z => (by cases z), fun _ => ⟨trivial, p, _, .int (-1), true, rfl, mup_same, rfl, ss1.1, ?_⟩⟩
  rw [dNe_int]
  simp only [bK]
  refine ⟨fun z => (by cases z), fun _ => ?_⟩
  simp only [sNil, List.getElem?_cons_zero, List.getElem?_cons_succ, List.set_cons_succ, List.set_cons_zero, List.append_nil]
  exact h _ (sub_p hp)
theorem rep_flat {x : D} {n : Nat} : (List.replicate n [x]).flatten = List.replicate n x := by
  induction n with
  | zero => rfl
  | succ n ih => rw [List.replicate_succ, List.flatten_cons, ih, List.replicate_succ]; rfl
theorem yes_node {m : Mem} {z : Str} {a : Addr} {k : Int} (h : m a = some (.lst [.str "yes"])) : nodeOk z m (.ref a) k = true := by
  have f : formOf "yes" = some "" := by decide +kernel
  have e0 : ("" : Str).length = 0 ∧ ("" : Str).cps.toList = [] := by decide +kernel
  simp only [nodeOk, lstd, h, f, e0.1, e0.2]
  rfl
theorem badAt_rep {m : Mem} {z : Str} {a : Addr} (h : m a = some (.lst [.str "yes"])) : ∀ (n k : Nat), badAt z m k (List.replicate n (.ref a)) = none
  | 0, _ => rfl
  | n + 1, k => by rw [List.replicate_succ, badAt, if_pos (yes_node h)]; exact badAt_rep h n _
theorem okT_yes {m : Mem} {a : Addr} (h : m a = some (.lst [.str "yes"])) : ∀ n, okT n m (.ref a) := by
  have sy : PyData.strOk "yes" = true ∧ ("yes" : Str).length = 3 := by decide +kernel
  have ts : typed m (.str "yes") := tyStr (by rw [sy.2, sizeLine_eq]; omega) sy.1
  have os : ∀ n, okT n m (.str "yes") := fun n => by
    cases n with
    | zero => exact ts
    | succ n => exact ⟨ts, fun xs e => by cases e⟩
  intro n
  cases n with
  | zero => exact ty_lst h
  | succ n =>
    refine ⟨ty_lst h, fun xs e => ?_⟩
    simp only [lstd, h, Option.some.injEq] at e
    subst e
    refine ⟨by rw [sizeLine_eq]; simp, fun x hx => ?_⟩
    have := List.mem_singleton.mp hx; subst this
    exact os n
theorem okT_rep {m : Mem} {a b : Addr} {n : Nat} (h : m a = some (.lst [.str "yes"])) (hb : m b = some (.lst (List.replicate n (.ref a)))) (hn : n ≤ 10000) : okT 30 m (.ref b) := by
  refine ⟨ty_lst hb, fun xs e => ?_⟩
  simp only [lstd, hb, Option.some.injEq] at e
  subst e
  refine ⟨by rw [List.length_replicate, sizeLine_eq]; omega, fun x hx => ?_⟩
  have := List.eq_of_mem_replicate hx; subst this
  exact okT_yes h 29
/-- names[::-1] + "x" -/
theorem rev_facts {z : Str} (hz : zNm z) : (revS z).length ≤ 3 ∧ PyData.strOk (revS z ++ "x") = true ∧ namesOk (.str (revS z ++ "x")) = false := by
  obtain ⟨z1, z2, z3, z4⟩ := hz.len
  have hl : ∀ n, n ≤ 3 → (Builtin.Str.strSliceIndices none none (-1) n).length ≤ 3 := by decide
  have l1 : (revS z).length ≤ 3 := by
    show (List.toArray _).size ≤ 3
    rw [List.size_toArray]
    exact Nat.le_trans (List.length_filterMap_le _ _) (hl _ z2)
  have mem : ∀ c ∈ codes (revS z), isLow c = true := fun c hc => by
    obtain ⟨i, _, hi⟩ := List.mem_filterMap.mp (show c ∈ (Builtin.Str.strSliceIndices none none (-1) z.length).filterMap (z.cps[·]?) by simpa [codes, revS] using hc)
    have : c ∈ z.cps := Array.mem_of_getElem? hi
    exact z3 c (by simpa using this)
  have cx : codes "x" = [120] := by decide +kernel
  refine ⟨l1, ?_, ?_⟩
  · have : (revS z ++ "x" : Str) = ⟨(codes (revS z ++ "x")).toArray⟩ := str_of_codes.symm
    rw [this]
    refine strOk_low fun c hc => ?_
    rw [codes_app, cx] at hc
    rcases List.mem_append.mp hc with hc | hc
    · exact mem c hc
    · have := List.mem_singleton.mp hc; subst this; decide
  · have hx : (codes (revS z ++ "x")).all (fun c => abc.cps.toList.contains c) = false := by
      rw [codes_app, cx, List.all_append]
      have : ([120].all fun c => abc.cps.toList.contains c) = false := by decide +kernel
      rw [this, Bool.and_false]
    simp only [namesOk]
    have hx' : ((revS z ++ "x" : Str).cps.toList.all fun c => abc.cps.toList.contains c) = false := hx
    rw [hx']; simp
theorem l__law_refused {ds : List D} {m : Mem} {Q : QD} {X : XD} (h : g__law_refused ds m Q X) : r__law_refused (startD N__law_refused.length ds) m (zsS Q X) := by
  obtain ⟨z, rfl, hz, h⟩ := h
  show r__law_refused [some (.str z), none, none] m (zsS Q X)
  have h4 : 4 ≤ sizeLine := by rw [sizeLine_eq]; decide
  have hbig : 10000 ≤ sizeLine := by rw [sizeLine_eq]; decide
  have sx : ("x" : Str).length = 1 := by decide +kernel
  rw [r__law_refused, sSeq]
  simp only [sForS, iSeq, eLst, eTup, aCons, aNil, eK, dRef]
  refine ⟨(by show 1 ≤ _; omega), fun p1 hp1 => ⟨(by show 1 ≤ _; omega), h4, fun p2 hp2 => ?_⟩⟩
  have n12 : p1 ≠ p2 := ne_new mup_same hp2
  have q1 : mup (mup m p1 (.lst [.str "yes"])) p2 (.lst [.non, .int 3, .ref p1, .tup [.str "yes"]]) p1 = some (.lst [.str "yes"]) := by rw [mup_ne n12, mup_same]
  have q2 : mup (mup m p1 (.lst [.str "yes"])) p2 (.lst [.non, .int 3, .ref p1, .tup [.str "yes"]]) p2 = some (.lst [.non, .int 3, .ref p1, .tup [.str "yes"]]) := mup_same
  have S0 : Sub m (mup (mup m p1 (.lst [.str "yes"])) p2 (.lst [.non, .int 3, .ref p1, .tup [.str "yes"]])) := (sub_p hp1).trans (sub_p hp2)
  generalize mup (mup m p1 (.lst [.str "yes"])) p2 (.lst [.non, .int 3, .ref p1, .tup [.str "yes"]]) = m1 at q1 q2 S0 ⊢
  simp only [iterQ, q2]
  -- behind the four things
  have rest : ∀ o1 o2, (sSeq (sIf (tOf (eBin dNe (eB bLen (aCons (eCall (shG g_checked_sheet) [] (aCons (eVar 0) (aCons (eBin dMul (eLst (aCons (eLst (aCons (eK (.str "yes")) aNil)) aNil)) (eK (.int 2000))) aNil))) aNil)) (eK (.int 2000))))
   (sRet (eK (.bl false)))
   sNil)
  (sSeq (sTry SS 2 "BadSheet"
   (sSeq (sExpr (eCall (shG g_checked_sheet) [] (aCons (eVar 0) (aCons (eBin dMul (eLst (aCons (eLst (aCons (eK (.str "yes")) aNil)) aNil)) (eK (.int 2001))) aNil))))
   (sRet (eK (.bl false))))
   (fun a C dx => (sIf (tOf (eBin dNe (eErrF SS a C "BadSheet" "number" dx 2) (eUn dNeg (eK (.int 1)))))
    (sRet (eK (.bl false)))
    sNil)))
  (sSeq (sTry SS 2 "BadNames"
   (sExpr (eCall g_read_saying [] (aCons (eBin dAdd (eRev (eVar 0)) (eK (.str "x"))) (aCons (eK .non) aNil))))
   (fun a C dx => (sRet (eBin dEq (eErrF SS a C "BadNames" "thing" dx 2) (eBin dAdd (eRev (eVar 0)) (eK (.str "x")))))))
  (sRet (eK (.bl false)))))) [some (.str z), o1, o2] m1 (zsS Q X) := by
    intro o1 o2
    rw [sSeq]
    simp only [sIf, tOf, eBin, eB, eCall, eLst, aCons, aNil, eVar, eK, List.getElem?_cons_zero, List.getElem?_cons_succ, List.set_cons_succ, List.set_cons_zero, List.append_nil, dRef]
    refine ⟨(by show 1 ≤ _; omega), fun p3 hp3 => ⟨(by show 1 ≤ _; omega), fun p4 hp4 => ?_⟩⟩
    have n34 : p3 ≠ p4 := ne_new mup_same hp4
    simp only [dMul, mup_same, dRef]
    refine ⟨⟨by decide, by decide, (by show 1 * 2000 ≤ _; omega)⟩, fun p5 hp5 => ?_⟩
    have n35 : p3 ≠ p5 := ne_new (by rw [mup_ne n34, mup_same]) hp5
    rw [show (2000 : Int).toNat = 2000 from rfl, rep_flat]
    have r3 : mup (mup (mup m1 p3 (.lst [.str "yes"])) p4 (.lst [.ref p3])) p5 (.lst (List.replicate 2000 (.ref p3))) p3 = some (.lst [.str "yes"]) := by rw [mup_ne n35, mup_ne n34, mup_same]
    have r5 : mup (mup (mup m1 p3 (.lst [.str "yes"])) p4 (.lst [.ref p3])) p5 (.lst (List.replicate 2000 (.ref p3))) p5 = some (.lst (List.replicate 2000 (.ref p3))) := mup_same
    have S1 : Sub m (mup (mup (mup m1 p3 (.lst [.str "yes"])) p4 (.lst [.ref p3])) p5 (.lst (List.replicate 2000 (.ref p3)))) := (S0.trans (sub_p hp3)).trans ((sub_p hp4).trans (sub_p hp5))
    generalize mup (mup (mup m1 p3 (.lst [.str "yes"])) p4 (.lst [.ref p3])) p5 (.lst (List.replicate 2000 (.ref p3))) = m2 at r3 r5 S1 ⊢
    refine x_checked_sheet hz.ty (okT_rep r3 r5 (by decide)) (fun q => by rw [show namesOk (.str z) = true from hz] at q; cases q) fun z' e _ => ?_
    cases e
    have b1 : sheetBad z m2 (.ref p5) = none := by
      simp only [sheetBad, lstd, r5]
      rw [if_pos (by rw [List.length_replicate]; omega), badAt_rep r3]; rfl
    rw [b1]
    have d1 : ∃ ys : List D, deepD 30 m2 (.ref p5) = .tup ys ∧ ys.length = 2000 := by
      refine ⟨_, by rw [deepD]; simp only [lstd, r5]; rfl, ?_⟩
      rw [List.length_map, List.length_replicate]
    obtain ⟨ys, e1, e2⟩ := d1
    rw [e1]
    simp only [bLen, d1Q, lenQ, e2, dNe_int, bK]
    refine ⟨fun q => absurd q (by decide), fun _ => ?_⟩
    simp only [sNil]
    rw [sSeq]
    simp only [sTry, sSeq, sExpr, eBin, eCall, eLst, aCons, aNil, eVar, eK, List.getElem?_cons_zero, List.getElem?_cons_succ, List.set_cons_succ, List.set_cons_zero, List.append_nil, dRef]
    refine ⟨(by show 1 ≤ _; omega), fun p6 hp6 => ⟨(by show 1 ≤ _; omega), fun p7 hp7 => ?_⟩⟩
    have n67 : p6 ≠ p7 := ne_new mup_same hp7
    simp only [dMul, mup_same, dRef]
    refine ⟨⟨by decide, by decide, (by show 1 * 2001 ≤ _; omega)⟩, fun p8 hp8 => ?_⟩
    have n68 : p6 ≠ p8 := ne_new (by rw [mup_ne n67, mup_same]) hp8
    rw [show (2001 : Int).toNat = 2001 from rfl, rep_flat]
    have r6 : mup (mup (mup m2 p6 (.lst [.str "yes"])) p7 (.lst [.ref p6])) p8 (.lst (List.replicate 2001 (.ref p6))) p6 = some (.lst [.str "yes"]) := by rw [mup_ne n68, mup_ne n67, mup_same]
    have r8 : mup (mup (mup m2 p6 (.lst [.str "yes"])) p7 (.lst [.ref p6])) p8 (.lst (List.replicate 2001 (.ref p6))) p8 = some (.lst (List.replicate 2001 (.ref p6))) := mup_same
    have S2 : Sub m (mup (mup (mup m2 p6 (.lst [.str "yes"])) p7 (.lst [.ref p6])) p8 (.lst (List.replicate 2001 (.ref p6)))) := (S1.trans (sub_p hp6)).trans ((sub_p hp7).trans (sub_p hp8))
    generalize mup (mup (mup m2 p6 (.lst [.str "yes"])) p7 (.lst [.ref p6])) p8 (.lst (List.replicate 2001 (.ref p6))) = m3 at r6 r8 S2 ⊢
    refine x_checked_sheet hz.ty (okT_rep r6 r8 (by decide)) (fun q => by rw [show namesOk (.str z) = true from hz] at q; cases q) fun z' e _ => ?_
    cases e
    have b2 : sheetBad z m3 (.ref p8) = some (-1) := by
      simp only [sheetBad, lstd, r8]
      rw [if_neg (by rw [List.length_replicate]; omega)]
    rw [b2]
    intro p9 hp9
    refine ⟨true, ss1.2.2.1, fun _ a ha => ?_, fun z => by cases z⟩
    simp only [sIf, tOf, eBin, eErrF, eUn, eK, dNeg, List.getElem?_cons_zero, List.getElem?_cons_succ, List.set_cons_succ, List.set_cons_zero, List.append_nil]
    refine ⟨trivial, p9, _, .int (-1), true, rfl, mup_same, rfl, ss1.2.2.1, ?_⟩
    rw [dNe_int]
    simp only [bK]
    refine ⟨fun z => (by cases z), fun _ => ?_⟩
    have S3 : Sub m (mup m3 p9 (.xd [("number", .int (-1))])) := S2.trans (sub_p hp9)
    generalize mup m3 p9 (.xd [("number", .int (-1))]) = m4 at S3 ha ⊢
    obtain ⟨v1, v2, v3⟩ := rev_facts hz
    have rv : ∀ (m : Mem) (Q : QD), (strQ (.str z) fun z => (revS z).length ≤ sizeLine ∧ dAdd (.str (revS z)) (.str "x") m Q) ↔ Q (.str (revS z ++ "x")) m := fun m Q => by
      simp only [strQ, dAdd]
      exact ⟨fun h => h.2.2, fun h => ⟨by omega, by omega, h⟩⟩
    simp only [sNil, sSeq, sTry, sExpr, eBin, eRev, eCall, aCons, aNil, eVar, eK, List.getElem?_cons_zero, List.getElem?_cons_succ, List.set_cons_succ, List.set_cons_zero, List.append_nil]
    refine (rv _ _).mpr ?_
    refine ⟨.str (revS z ++ "x"), .non, rfl, tyStr (by rw [PySem.Str.length_append]; omega) v2, tx_of ty_non (fun t e => (by cases e)), fun _ p10 hp10 => ?_, fun z' e q => (by cases e; rw [v3] at q; cases q)⟩
    refine ⟨true, ss1.2.2.2, fun _ a ha => ?_, fun z => by cases z⟩
    simp only [sRet, eBin, eErrF, eRev, eVar, eK, List.getElem?_cons_zero, List.getElem?_cons_succ, List.set_cons_succ, List.set_cons_zero, List.append_nil]
    refine ⟨trivial, p10, _, .str (revS z ++ "x"), true, rfl, mup_same, rfl, ss1.2.2.2, ?_⟩
    refine (rv _ _).mpr ?_
    rw [dEq_str v2 v2, decide_eq_true rfl]
    exact ⟨m, S3.trans (sub_p hp10), h⟩
  -- the four things
  have step : ∀ (xs : List D), (∀ d ∈ xs, typed m1 d ∧ ∀ t, d ≠ .str t) → ∀ (o1 : Option D) , forS (fun m' => m' p2 = some (.lst [.non, .int 3, .ref p1, .tup [.str "yes"]])) (gN 1) rfBody { (zsS Q X) with nx := fun e1 m1 => (sSeq (sIf (tOf (eBin dNe (eB bLen (aCons (eCall (shG g_checked_sheet) [] (aCons (eVar 0) (aCons (eBin dMul (eLst (aCons (eLst (aCons (eK (.str "yes")) aNil)) aNil)) (eK (.int 2000))) aNil))) aNil)) (eK (.int 2000)))) (sRet (eK (.bl false))) sNil) (sSeq (sTry SS 2 "BadSheet" (sSeq (sExpr (eCall (shG g_checked_sheet) [] (aCons (eVar 0) (aCons (eBin dMul (eLst (aCons (eLst (aCons (eK (.str "yes")) aNil)) aNil)) (eK (.int 2001))) aNil)))) (sRet (eK (.bl false)))) (fun a C dx => (sIf (tOf (eBin dNe (eErrF SS a C "BadSheet" "number" dx 2) (eUn dNeg (eK (.int 1))))) (sRet (eK (.bl false))) sNil))) (sSeq (sTry SS 2 "BadNames" (sExpr (eCall g_read_saying [] (aCons (eBin dAdd (eRev (eVar 0)) (eK (.str "x"))) (aCons (eK .non) aNil)))) (fun a C dx => (sRet (eBin dEq (eErrF SS a C "BadNames" "thing" dx 2) (eBin dAdd (eRev (eVar 0)) (eK (.str "x"))))))) (sRet (eK (.bl false)))))) e1 m1 (zsS Q X) } xs [some (.str z), o1, none] m1 := by
    intro xs
    induction xs with
    | nil => exact fun _ o1 => ⟨q2, rest o1 none⟩
    | cons d xs ih =>
      intro hx o1
      refine ⟨q2, ?_⟩
      simp only [gN, List.getElem?_cons_zero, List.getElem?_cons_succ, List.set_cons_succ, List.set_cons_zero, List.append_nil]
      refine rf_step hz (hx d (List.mem_cons_self ..)).1 (hx d (List.mem_cons_self ..)).2 fun m' s => ?_
      exact ⟨m1, s, ih (fun d hd => hx d (List.mem_cons_of_mem _ hd)) _⟩
  refine step _ (fun d hd => ?_) none
  simp only [List.mem_cons, List.not_mem_nil, or_false] at hd
  rcases hd with rfl | rfl | rfl | rfl
  · exact ⟨ty_non, fun t e => by cases e⟩
  · exact ⟨ty_int, fun t e => by cases e⟩
  · exact ⟨ty_lst q1, fun t e => by cases e⟩
  · exact ⟨ty_tup, fun t e => by cases e⟩
end L2.EV
set_option maxHeartbeats 1000000
/-! K01M3: texts, listings: what the law needs. -/
namespace L2.EV
open PySem PySem.Spec PyProof.Rows
def sepG (last : Str) : List Nat := if last = "" ∨ last = "(" then [] else [32]
theorem sep_word {last w : Str} (h : w ≠ ")") : sep last w = sepG last := by
  unfold sep sepG
  by_cases q : last = "" ∨ last = "("
  · rw [if_pos q, if_pos (by rcases q with q | q; exact .inl q; exact .inr (.inl q))]
  · rw [if_neg q, if_neg (by intro z; rcases z with z | z | z; exact q (.inl z); exact q (.inr z); exact h z)]
theorem sepG_word {w : Str} (h : wordC w) : sepG w = [32] := by
  obtain ⟨a, b, _⟩ := h.ne
  unfold sepG; rw [if_neg (by intro z; rcases z with z | z; exact a z; exact b z)]
theorem wordC_not : wordC "not" := by
  have hn : codes "not" ≠ [] ∧ ∀ c ∈ codes "not", isLow c = true := by decide +kernel
  exact hn
theorem wordC_jn {w : Str} (h : w ∈ joinL) : wordC w := by
  have c : ∀ w ∈ joinL, codes w ≠ [] ∧ ∀ c ∈ codes w, isLow c = true := by decide +kernel
  exact c w h
theorem lay_txt {z : Str} (hz : zOk z) : ∀ (p : PT), okP z p → ∃ e : Str, sepG e = [32] ∧ e ≠ "" ∧ e ≠ "(" ∧ ∀ last ws, lay last (toks p ++ ws) = sepG last ++ (txt p ++ lay e ws)
  | .atom ks, h => by
    have hw := wordsA_tok hz h
    cases h with
    | @al w hh =>
      have h1 := hw w (by simp [wordsA])
      exact ⟨w, sepG_word h1, h1.ne.1, h1.ne.2.1, fun last ws => by
        show sep last w ++ (codes w ++ lay w ws) = _
        rw [sep_word h1.ne.2.2]; rfl⟩
    | @ho t hh =>
      have h1 := hw "holds" (by simp [wordsA])
      have h2 := hw t (by simp [wordsA])
      exact ⟨t, sepG_word h2, h2.ne.1, h2.ne.2.1, fun last ws => by
        show sep last "holds" ++ (codes "holds" ++ (sep "holds" t ++ (codes t ++ lay t ws))) = _
        rw [sep_word h1.ne.2.2, sep_word h2.ne.2.2, sepG_word h1]
        simp [txt, atomT]⟩
    | @re w t u hh ht hu =>
      have h1 := hw t (by simp [wordsA])
      have h2 := hw w (by simp [wordsA])
      have h3 := hw u (by simp [wordsA])
      exact ⟨u, sepG_word h3, h3.ne.1, h3.ne.2.1, fun last ws => by
        show sep last t ++ (codes t ++ (sep t w ++ (codes w ++ (sep w u ++ (codes u ++ lay u ws))))) = _
        rw [sep_word h1.ne.2.2, sep_word h2.ne.2.2, sep_word h3.ne.2.2, sepG_word h1, sepG_word h2]
        simp [txt, atomT]⟩
    | nt h => exact absurd h (Nat.not_lt_zero _)
    | jn h h1 h2 => exact absurd h1 (Nat.not_lt_zero _)
  | .br p, h => by
    obtain ⟨e, e1, e2, e3, ih⟩ := lay_txt hz p h
    have n1 : (")" : Str) ≠ "" ∧ (")" : Str) ≠ "(" ∧ ("(" : Str) ≠ ")" := by decide +kernel
    refine ⟨")", by unfold sepG; rw [if_neg (by intro z; rcases z with z | z; exact n1.1 z; exact n1.2.1 z)], n1.1, n1.2.1, fun last ws => ?_⟩
    have s0 : sepG "(" = [] := by unfold sepG; rw [if_pos (.inr rfl)]
    have e4 : sep e ")" = [] := by unfold sep; rw [if_pos (.inr (.inr rfl))]
    show sep last "(" ++ (codes "(" ++ lay "(" ((toks p ++ [(")" : Str)]) ++ ws)) = _
    rw [sep_word n1.2.2, List.append_assoc, ih, s0, s_opC]
    show sepG last ++ ([40] ++ ([] ++ (txt p ++ (sep e ")" ++ (codes ")" ++ lay ")" ws))))) = _
    rw [e4, s_clC]
    simp [txt]
  | .nt p, h => by
    obtain ⟨e, e1, e2, e3, ih⟩ := lay_txt hz p h.2
    refine ⟨e, e1, e2, e3, fun last ws => ?_⟩
    show sep last "not" ++ (codes "not" ++ lay "not" (toks p ++ ws)) = _
    rw [sep_word wordC_not.ne.2.2, ih, sepG_word wordC_not]
    simp [txt]
  | .jn w l r, h => by
    obtain ⟨e, e1, e2, e3, ih⟩ := lay_txt hz l h.2.2.2.1
    obtain ⟨f, f1, f2, f3, ih2⟩ := lay_txt hz r h.2.2.2.2
    have hw := wordC_jn h.1
    refine ⟨f, f1, f2, f3, fun last ws => ?_⟩
    show lay last ((toks l ++ w :: toks r) ++ ws) = _
    rw [List.append_assoc, ih]
    show sepG last ++ (txt l ++ (sep e w ++ (codes w ++ lay w (toks r ++ ws)))) = _
    rw [sep_word hw.ne.2.2, e1, ih2, sepG_word hw]
    simp [txt]
theorem lay_len : ∀ (ws : List Str) (last : Str), (∀ x ∈ ws, tokC x) → ws.length ≤ (lay last ws).length
  | [], _, _ => Nat.le_refl _
  | w :: ws, last, h => by
    have ih := lay_len ws w fun x hx => h x (List.mem_cons_of_mem _ hx)
    have h1 : 1 ≤ (codes w).length := by
      rcases h w (List.mem_cons_self ..) with rfl | rfl | ⟨hw, _⟩
      · rw [s_opC]; exact Nat.le_refl _
      · rw [s_clC]; exact Nat.le_refl _
      · exact List.length_pos_iff.mpr hw
    simp only [lay, List.length_append, List.length_cons]; omega
theorem read_txt {z : Str} (hz : zOk z) {p : PT} (hp : okP z p) (hd : depP p ≤ 30) : readS z (txt p) = .ok (post (erase p) []).1 := by
  obtain ⟨e, _, _, _, h⟩ := lay_txt hz p hp
  have ht := toks_tok hz hp
  have e1 : lay "" (toks p) = txt p := by
    have := h "" []
    rw [List.append_nil] at this
    rw [this]; simp [sepG, lay]
  have hl := lay_len (toks p) "" ht
  rw [e1] at hl
  have := read_toks hz hp hd ht (f := (txt p).length + 1) (by omega)
  rw [e1] at this
  exact this
theorem txt_ok {z : Str} (hz : zOk z) : ∀ {p : PT}, okP z p → ∀ c ∈ txt p, c < 0x110000
  | .atom ks, h => fun c hc => by
    have hw := wordsA_tok hz h
    have lw : ∀ w, wordC w → ∀ c ∈ codes w, c < 0x110000 := fun w h c hc => isLow_lt (h.2 c hc)
    cases h with
    | al hh => exact lw _ (hw _ (by simp [wordsA])) c hc
    | @ho t hh =>
      simp only [txt, atomT, List.mem_append, List.mem_cons] at hc
      rcases hc with hc | rfl | hc
      · exact lw _ (hw _ (by simp [wordsA])) c hc
      · decide
      · exact lw _ (hw t (by simp [wordsA])) c hc
    | @re w t u hh ht hu =>
      simp only [txt, atomT, List.mem_append, List.mem_cons] at hc
      rcases hc with hc | rfl | hc | rfl | hc
      · exact lw _ (hw t (by simp [wordsA])) c hc
      · decide
      · exact lw _ (hw w (by simp [wordsA])) c hc
      · decide
      · exact lw _ (hw u (by simp [wordsA])) c hc
    | nt h => exact absurd h (Nat.not_lt_zero _)
    | jn h h1 h2 => exact absurd h1 (Nat.not_lt_zero _)
  | .br p, h => fun c hc => by
    simp only [txt, List.mem_cons, List.mem_append, List.not_mem_nil, or_false] at hc
    rcases hc with rfl | hc | rfl
    · decide
    · exact txt_ok (p := p) hz h c hc
    · decide
  | .nt p, h => fun c hc => by
    simp only [txt, List.mem_cons, List.mem_append] at hc
    rcases hc with hc | rfl | hc
    · exact isLow_lt (wordC_not.2 c hc)
    · decide
    · exact txt_ok (p := p) hz h.2 c hc
  | .jn w l r, h => fun c hc => by
    simp only [txt, List.mem_cons, List.mem_append] at hc
    rcases hc with hc | rfl | hc | rfl | hc
    · exact txt_ok (p := l) hz h.2.2.2.1 c hc
    · decide
    · exact isLow_lt ((wordC_jn h.1).2 c hc)
    · decide
    · exact txt_ok (p := r) hz h.2.2.2.2 c hc
theorem strOk_codes {t : Str} (h : ∀ c ∈ codes t, c < 0x110000) : PyData.strOk t = true := by
  have : t = ⟨(codes t).toArray⟩ := str_of_codes.symm
  rw [this]
  simp only [PyData.strOk, List.size_toArray, List.all_toArray', List.all_eq_true, decide_eq_true_eq]
  exact h
/-- a text is read -/
theorem x_read {z t : Str} {p : PT} {m : Mem} {Q : QD} {X : XD} (hz : zNm z) (hp : okP z p) (hd : depP p ≤ 30) (ht : codes t = txt p) (hl : t.length ≤ 900000) (h : Q (.tup ((post (erase p) []).1.map dN)) m) : g_read_saying [.str z, .str t] m Q X := by
  have hz' := hz.len.2.2.1
  refine ⟨.str z, .str t, rfl, hz.ty, ⟨tyStr (by rw [sizeLine_eq]; omega) (strOk_codes (by rw [ht]; exact txt_ok hz' hp)), fun y e => by cases e; exact hl⟩, fun q => (by rw [show namesOk (.str z) = true from hz] at q; cases q), fun z' e _ => ?_⟩
  cases e
  show ansQ (readS z t.cps.toList) m Q X
  rw [show t.cps.toList = txt p from ht, read_txt hz' hp hd]
  exact h
/-! ### sheets as the program takes them -/
theorem key_typed {k : Key} {m : Mem} (h : ∀ s, k = .inr s → PyData.strOk s = true ∧ s.length ≤ 8) : typed m (dK k) ∧ lstd m (dK k) = none ∧ ∀ n, okT n m (dK k) := by
  have a : typed m (dK k) ∧ lstd m (dK k) = none := by
    cases k with
    | inl i => exact ⟨ty_int, rfl⟩
    | inr s => exact ⟨tyStr (by have := (h s rfl).2; rw [sizeLine_eq]; omega) (h s rfl).1, rfl⟩
  refine ⟨a.1, a.2, fun n => ?_⟩
  cases n with
  | zero => exact a.1
  | succ n => exact ⟨a.1, fun xs e => by rw [a.2] at e; cases e⟩
theorem node_short {z : Str} {k : Nat} {ks : List Key} (h : NodeV z k ks) : ks.length ≤ 3 ∧ ∀ x ∈ ks, ∀ s, x = .inr s → s.length ≤ 8 := by
  have c1 : ∀ w ∈ aloneL, w.length ≤ 8 := by decide +kernel
  have c2 : ∀ w ∈ relL, w.length ≤ 8 := by decide +kernel
  have c3 : ∀ w ∈ joinL, w.length ≤ 8 := by decide +kernel
  have c4 : ("holds" : Str).length ≤ 8 ∧ ("not" : Str).length ≤ 8 := by decide +kernel
  have ct : ∀ t, termOk z (.str t) = true → t.length ≤ 8 := fun t ht => by have := term_len ht; omega
  refine ⟨by cases h <;> simp, fun x hx s e => ?_⟩
  subst e
  cases h with
  | al h => simp at hx; subst hx; exact c1 _ h
  | ho h =>
    simp at hx
    rcases hx with rfl | rfl
    · exact c4.1
    · exact ct _ h
  | re h ht hu =>
    simp at hx
    rcases hx with rfl | rfl | rfl
    · exact c2 _ h
    · exact ct _ ht
    · exact ct _ hu
  | nt h => simp at hx; subst hx; exact c4.2
  | jn h h1 h2 => simp at hx; subst hx; exact c3 _ h
theorem node_okT {z : Str} (hz : zOk z) {k : Nat} {ks : List Key} (h : NodeV z k ks) (m : Mem) (n : Nat) : okT (n + 1) m (dN ks) ∧ deepD (n + 1 + 1) m (dN ks) = dN ks := by
  obtain ⟨s1, s2⟩ := node_short h
  have hk := leaf_ok hz h
  have kt : ∀ x ∈ ks, typed m (dK x) ∧ lstd m (dK x) = none ∧ ∀ n, okT n m (dK x) := fun x hx => key_typed fun s e => ⟨hk x hx s e, s2 x hx s e⟩
  constructor
  · refine ⟨ty_tup, fun xs e => ?_⟩
    cases e
    refine ⟨by rw [List.length_map, sizeLine_eq]; omega, fun x hx => ?_⟩
    obtain ⟨y, hy, rfl⟩ := List.mem_map.mp hx
    exact (kt y hy).2.2 n
  · show D.tup ((ks.map dK).map (deepD (n + 1) m)) = _
    congr 1
    rw [List.map_map]
    refine List.map_congr_left fun x hx => ?_
    show deepD (n + 1) m (dK x) = dK x
    rw [deepD, (kt x hx).2.1]
theorem nodeOk_of {z : Str} {m : Mem} {d : D} {w : Str} {args : List D} {fm : Str} {k : Int} (hl : lstd m d = some (.str w :: args)) (hf : formOf w = some fm) : nodeOk z m d k = (decide (args.length = fm.length) && partsOk z k fm.cps.toList args) := by
  unfold nodeOk; rw [hl]; simp only; rw [hf]
theorem node_isOk {z : Str} {k : Nat} {ks : List Key} (h : NodeV z k ks) (m : Mem) : nodeOk z m (dN ks) (k : Nat) = true := by
  have e0 : ("" : Str).cps.toList = [] ∧ ("" : Str).length = 0 := by decide +kernel
  have et : ("t" : Str).cps.toList = [116] ∧ ("t" : Str).length = 1 := by decide +kernel
  have ett : ("tt" : Str).cps.toList = [116, 116] ∧ ("tt" : Str).length = 2 := by decide +kernel
  have en : ("n" : Str).cps.toList = [110] ∧ ("n" : Str).length = 1 := by decide +kernel
  have enn : ("nn" : Str).cps.toList = [110, 110] ∧ ("nn" : Str).length = 2 := by decide +kernel
  cases h with
  | @al w h =>
    have c1 : ∀ w ∈ aloneL, formOf w = some ("" : Str) := by decide +kernel
    rw [nodeOk_of (w := w) (args := []) rfl (c1 w h), e0.1, e0.2]; rfl
  | @ho t h =>
    have c1 : formOf "holds" = some ("t" : Str) := by decide +kernel
    rw [nodeOk_of (w := "holds") (args := [.str t]) rfl c1, et.1, et.2]
    simp only [partsOk, partOk, if_true, h]; rfl
  | @re w t u h ht hu =>
    have c1 : ∀ w ∈ relL, formOf w = some ("tt" : Str) := by decide +kernel
    rw [nodeOk_of (w := w) (args := [.str t, .str u]) rfl (c1 w h), ett.1, ett.2]
    simp only [partsOk, partOk, if_true, ht, hu]; rfl
  | @nt i h =>
    have c1 : formOf "not" = some ("n" : Str) := by decide +kernel
    have hi : isIntD (.int (i : Nat)) 0 ((k : Nat) - 1) = true := by
      simp only [isIntD, Bool.and_eq_true, decide_eq_true_eq]; omega
    rw [nodeOk_of (w := "not") (args := [.int (i : Nat)]) rfl c1, en.1, en.2]
    simp only [partsOk, partOk, hi]; rfl
  | @jn w i j h hi hj =>
    have c1 : ∀ w ∈ joinL, formOf w = some ("nn" : Str) := by decide +kernel
    have h1 : isIntD (.int (i : Nat)) 0 ((k : Nat) - 1) = true := by
      simp only [isIntD, Bool.and_eq_true, decide_eq_true_eq]; omega
    have h2 : isIntD (.int (j : Nat)) 0 ((k : Nat) - 1) = true := by
      simp only [isIntD, Bool.and_eq_true, decide_eq_true_eq]; omega
    rw [nodeOk_of (w := w) (args := [.int (i : Nat), .int (j : Nat)]) rfl (c1 w h), enn.1, enn.2]
    simp only [partsOk, partOk, h1, h2]; rfl
theorem sheet_notBad {z : Str} {m : Mem} : ∀ (r : List (List Key)) (k : Nat), (∀ i ks, r[i]? = some ks → NodeV z (k + i) ks) → badAt z m k (r.map dN) = none
  | [], _, _ => rfl
  | ks :: r, k, h => by
    have h0 : NodeV z k ks := h 0 ks rfl
    rw [List.map_cons, badAt, if_pos (node_isOk h0 m)]
    exact sheet_notBad r (k + 1) fun i x e => by
      have := h (i + 1) x (by simpa using e)
      rw [show k + 1 + i = k + (i + 1) by omega]; exact this
theorem isSheet_of {z : Str} (hz : zOk z) {sh : List (List Key)} (hv : SheetV z sh) (h1 : 1 ≤ sh.length) (h2 : sh.length ≤ 2000) {m : Mem} {d : D} (hd : lstd m d = some (sh.map dN)) (ty : typed m d) : isSheet m d sh := by
  have mem : ∀ ks ∈ sh, ∃ k, NodeV z k ks := fun ks hk => by
    obtain ⟨i, hi⟩ := List.mem_iff_getElem?.mp hk
    exact ⟨i, hv i ks hi⟩
  refine ⟨⟨ty, fun xs e => ?_⟩, ?_, fun z' hv' => ?_⟩
  · rw [hd] at e; cases e
    refine ⟨by rw [List.length_map, sizeLine_eq]; omega, fun x hx => ?_⟩
    obtain ⟨ks, hk, rfl⟩ := List.mem_map.mp hx
    obtain ⟨k, hn⟩ := mem ks hk
    exact (node_okT hz hn m 28).1
  · rw [deepD, hd]
    show D.tup ((sh.map dN).map (deepD 29 m)) = _
    congr 1
    rw [List.map_map]
    refine List.map_congr_left fun ks hk => ?_
    obtain ⟨k, hn⟩ := mem ks hk
    exact (node_okT hz hn m 27).2
  · unfold sheetBad
    rw [hd]
    simp only
    rw [if_pos (by rw [List.length_map]; exact ⟨h1, h2⟩), sheet_notBad sh 0 (fun i ks e => by rw [Nat.zero_add]; exact hv' i ks e)]
    rfl
end L2.EV
set_option maxHeartbeats 1000000
/-! K01M4: a listing is a sheet and tidy. -/
namespace L2.EV
open PySem PySem.Spec PyProof.Rows
def TrG (z : Str) : Tr → Prop
  | .atom ks => ∀ k, NodeV z k ks
  | .nt t => TrG z t
  | .jn w l r => w ∈ joinL ∧ TrG z l ∧ TrG z r
theorem trG_of {z : Str} {sh : List (List Key)} (hv : SheetV z sh) : ∀ (n : Nat), n < sh.length → TrG z (trOf sh n) := by
  intro n
  induction n using Nat.strongRecOn with
  | ind n ih =>
    intro hn
    refine node_split hv hn (fun ks _ _ h et => ?_) (fun i _ hi1 hi2 et => ?_) (fun w i j _ hw hi1 hj1 hi2 hj2 et => ?_)
    · rw [et]; exact h
    · rw [et]; exact ih i hi1 hi2
    · rw [et]; exact ⟨hw, ih i hi1 hi2, ih j hj1 hj2⟩
theorem trOf_ext {z : Str} {ns e : List (List Key)} (hv : SheetV z ns) (hv2 : SheetV z (ns ++ e)) : ∀ i, i < ns.length → trOf (ns ++ e) i = trOf ns i := by
  intro n
  induction n using Nat.strongRecOn with
  | ind n ih =>
    intro hn
    have g : ∀ ks, ns[n]? = some ks → (ns ++ e)[n]? = some ks := fun ks h => by rw [List.getElem?_append_left hn]; exact h
    refine node_split hv hn (fun ks hk hr h et => ?_) (fun i hk hi1 hi2 et => ?_) (fun w i j hk hw hi1 hj1 hi2 hj2 et => ?_)
    · rw [et, tr_at hv2 (g _ hk) hr]
    · rw [et, (tr_nt hv2 (g _ hk)).1, ih i hi1 hi2]
    · rw [et, (tr_jn hv2 (g _ hk)).1, ih i hi1 hi2, ih j hj1 hj2]
theorem putN_get (ns : List (List Key)) (ks : List Key) : (putN ns ks).1[(putN ns ks).2]? = some ks := by
  unfold putN
  split
  · rename_i h
    have hl : idxOf ks ns < ns.length := List.findIdx_lt_length.mpr (by
      simp only [inN, List.any_eq_true] at h
      exact h)
    have : decide (ns[idxOf ks ns] = ks) = true := List.findIdx_getElem (p := fun x => decide (x = ks)) (w := hl)
    show ns[idxOf ks ns]? = some ks
    rw [List.getElem?_eq_getElem hl, of_decide_eq_true this]
  · simp
theorem putN_lt (ns : List (List Key)) (ks : List Key) : (putN ns ks).2 < (putN ns ks).1.length := (List.getElem?_eq_some_iff.mp (putN_get ns ks)).1
theorem putN_v {z : Str} {ns : List (List Key)} {ks : List Key} (hv : SheetV z ns) (h : NodeV z ns.length ks) : SheetV z (putN ns ks).1 := by
  unfold putN; split
  · exact hv
  · exact sheet_app hv h
/-- what a listing holds -/
structure LsOk (z : Str) (N : Nat) (ns : List (List Key)) : Prop where
  v : SheetV z ns
  sz : ∀ i, i < ns.length → trSz (trOf ns i) ≤ N
theorem LsOk.put {z : Str} {N : Nat} {ns : List (List Key)} {ks : List Key} {T : Tr} (h : LsOk z N ns) (hk : NodeV z ns.length ks) (ht : ∀ ns' j, SheetV z ns' → ns'[j]? = some ks → (∀ i, i < ns.length → trOf ns' i = trOf ns i) → trOf ns' j = T) (hT : trSz T ≤ N) :
    LsOk z N (putN ns ks).1 ∧ (putN ns ks).2 < (putN ns ks).1.length ∧ trOf (putN ns ks).1 (putN ns ks).2 = T ∧ ((∀ i, i < ns.length → trSz (trOf ns i) < trSz T) → (putN ns ks).2 + 1 = (putN ns ks).1.length) := by
  have hv' := putN_v h.v hk
  obtain ⟨e, he⟩ := putN_ext ns ks
  have ext : ∀ i, i < ns.length → trOf (putN ns ks).1 i = trOf ns i := fun i hi => by
    rw [he] at hv' ⊢; exact trOf_ext h.v hv' i hi
  have eT := ht _ _ hv' (putN_get ns ks) ext
  refine ⟨⟨hv', fun i hi => ?_⟩, putN_lt ns ks, eT, fun hs => ?_⟩
  · by_cases q : i < ns.length
    · rw [ext i q]; exact h.sz i q
    · have : i = (putN ns ks).2 := by
        unfold putN at hi ⊢
        split at hi
        · exact absurd hi q
        · rename_i c
          rw [if_neg c]
          simp at hi ⊢; omega
      rw [this, eT]; exact hT
  · by_cases q : inN ks ns = true
    · have e1 : putN ns ks = (ns, idxOf ks ns) := by unfold putN; rw [if_pos q]
      have hl := putN_lt ns ks
      rw [e1] at eT hl
      have := hs _ hl
      rw [eT] at this
      exact absurd this (Nat.lt_irrefl _)
    · unfold putN; rw [if_neg q]; simp
theorem post_LsOk {z : Str} : ∀ (t : Tr) (N : Nat) (ns : List (List Key)), TrG z t → LsOk z N ns → trSz t ≤ N → LsOk z N (post t ns).1 ∧ (post t ns).2 < (post t ns).1.length ∧ trOf (post t ns).1 (post t ns).2 = t
  | .atom ks, N, ns, g, h, hN => by
    have := h.put (T := .atom ks) (g _) (fun ns' j v e _ => tr_at v e (by
      cases g 0 with
      | al h => rfl
      | ho h => rfl
      | re h _ _ => rfl
      | nt h => exact absurd h (Nat.not_lt_zero _)
      | jn h h1 h2 => exact absurd h1 (Nat.not_lt_zero _))) hN
    exact ⟨this.1, this.2.1, this.2.2.1⟩
  | .nt t, N, ns, g, h, hN => by
    simp only [trSz] at hN
    obtain ⟨a, b, c⟩ := post_LsOk t N ns g h (by omega)
    have := a.put (ks := [.inr "not", .inl ((post t ns).2 : Nat)]) (T := .nt t) (.nt b) (fun ns' j v e x => by rw [(tr_nt v e).1, x _ b, c]) (by simp only [trSz]; omega)
    exact ⟨this.1, this.2.1, this.2.2.1⟩
  | .jn w l r, N, ns, g, h, hN => by
    simp only [trSz] at hN
    obtain ⟨a, b, c⟩ := post_LsOk l N ns g.2.1 h (by omega)
    obtain ⟨a2, b2, c2⟩ := post_LsOk r N (post l ns).1 g.2.2 a (by omega)
    obtain ⟨e, he⟩ := post_ext r (post l ns).1
    have b' : (post l ns).2 < (post r (post l ns).1).1.length := by rw [he, List.length_append]; omega
    have c' : trOf (post r (post l ns).1).1 (post l ns).2 = l := by
      have v2 := a2.v
      rw [he] at v2 ⊢
      rw [trOf_ext a.v v2 _ b, c]
    have := a2.put (ks := [.inr w, .inl ((post l ns).2 : Nat), .inl ((post r (post l ns).1).2 : Nat)]) (T := .jn w l r) (.jn g.1 b' b2) (fun ns' j v e x => by rw [(tr_jn v e).1, x _ b', x _ b2, c', c2]) (by simp only [trSz]; omega)
    exact ⟨this.1, this.2.1, this.2.2.1⟩
theorem LsOk.nil {z : Str} {N : Nat} : LsOk z N [] := ⟨sheet_nil, fun i h => absurd h (Nat.not_lt_zero _)⟩
theorem LsOk.mono {z : Str} {N M : Nat} {ns : List (List Key)} (h : LsOk z N ns) (e : N ≤ M) : LsOk z M ns := ⟨h.v, fun i hi => Nat.le_trans (h.sz i hi) e⟩
/-- the root is the last one -/
theorem post_last {z : Str} (t : Tr) (g : TrG z t) : (post t []).2 + 1 = (post t []).1.length := by
  cases t with
  | atom ks =>
    refine (LsOk.put (N := 1) (T := .atom ks) LsOk.nil (g _) (fun ns' j v e _ => tr_at v e (by
      cases g 0 with
      | al h => rfl
      | ho h => rfl
      | re h _ _ => rfl
      | nt h => exact absurd h (Nat.not_lt_zero _)
      | jn h h1 h2 => exact absurd h1 (Nat.not_lt_zero _))) (Nat.le_refl _)).2.2.2 fun i h => absurd h (Nat.not_lt_zero _)
  | nt t =>
    obtain ⟨a, b, c⟩ := post_LsOk t (trSz t) [] g LsOk.nil (Nat.le_refl _)
    refine ((a.mono (Nat.le_succ _)).put (N := trSz t + 1) (ks := [.inr "not", .inl ((post t []).2 : Nat)]) (T := .nt t) (.nt b) (fun ns' j v e x => by rw [(tr_nt v e).1, x _ b, c]) (by simp only [trSz]; omega)).2.2.2 fun i h => ?_
    have := a.sz i h
    simp only [trSz]; omega
  | jn w l r =>
    obtain ⟨a, b, c⟩ := post_LsOk l (trSz l + trSz r) [] g.2.1 LsOk.nil (by omega)
    obtain ⟨a2, b2, c2⟩ := post_LsOk r (trSz l + trSz r) (post l []).1 g.2.2 a (by omega)
    obtain ⟨e, he⟩ := post_ext r (post l []).1
    have b' : (post l []).2 < (post r (post l []).1).1.length := by rw [he, List.length_append]; omega
    have c' : trOf (post r (post l []).1).1 (post l []).2 = l := by
      have v2 := a2.v
      rw [he] at v2 ⊢
      rw [trOf_ext a.v v2 _ b, c]
    refine ((a2.mono (Nat.le_succ _)).put (N := trSz l + trSz r + 1) (ks := [.inr w, .inl ((post l []).2 : Nat), .inl ((post r (post l []).1).2 : Nat)]) (T := .jn w l r) (.jn g.1 b' b2) (fun ns' j v e x => by rw [(tr_jn v e).1, x _ b', x _ b2, c', c2]) (by simp only [trSz]; omega)).2.2.2 fun i h => ?_
    have := a2.sz i h
    simp only [trSz]; omega
/-- a listing is tidy -/
theorem tidy_again {z : Str} {t : Tr} (g : TrG z t) : tidyS (post t []).1 = (post t []).1 ∧ SheetV z (post t []).1 ∧ 1 ≤ (post t []).1.length := by
  obtain ⟨a, b, c⟩ := post_LsOk t (trSz t) [] g LsOk.nil (Nat.le_refl _)
  have hl := post_last t g
  refine ⟨?_, a.v, by omega⟩
  unfold tidyS
  rw [show (post t []).1.length - 1 = (post t []).2 by omega, c]
theorem eraseG {z : Str} : ∀ {p : PT}, okP z p → TrG z (erase p)
  | .atom ks, h => fun k => by
    cases h with
    | al h => exact .al h
    | ho h => exact .ho h
    | re h a b => exact .re h a b
    | nt h => exact absurd h (Nat.not_lt_zero _)
    | jn h h1 h2 => exact absurd h1 (Nat.not_lt_zero _)
  | .br p, h => eraseG (p := p) h
  | .nt p, h => eraseG (p := p) h.2
  | .jn w l r, h => ⟨h.1, eraseG h.2.2.2.1, eraseG h.2.2.2.2⟩
theorem trH_le {z : Str} {sh : List (List Key)} (hv : SheetV z sh) : ∀ n, n < sh.length → trH (trOf sh n) ≤ n := by
  intro n
  induction n using Nat.strongRecOn with
  | ind n ih =>
    intro hn
    refine node_split hv hn (fun ks _ _ h et => ?_) (fun i _ hi1 hi2 et => ?_) (fun w i j _ hw hi1 hj1 hi2 hj2 et => ?_)
    · rw [et]; exact Nat.zero_le _
    · have := ih i hi1 hi2
      rw [et]; simp only [trH]; omega
    · have := ih i hi1 hi2
      have := ih j hj1 hj2
      rw [et]; simp only [trH]; omega
/-! ### the texts that are not drawn -/
def yesP : PT := .atom [.inr "yes"]
def brs : Nat → PT → PT
  | 0, p => p
  | k + 1, p => .br (brs k p)
def nts : Nat → PT
  | 0 => yesP
  | k + 1 => .nt (nts k)
def ch (p : PT) : Nat → PT
  | 0 => p
  | k + 1 => .jn "and" (ch p k) p
theorem yes_v {z : Str} : NodeV z 0 [.inr "yes"] := .al (by decide +kernel)
theorem s_notC : codes "not " = codes "not" ++ [32] := by decide +kernel
theorem rep_app {α : Type} (x : α) : ∀ k, List.replicate k x ++ [x] = x :: List.replicate k x
  | 0 => rfl
  | k + 1 => by rw [List.replicate_succ, List.cons_append, rep_app x k]
theorem brs_txt (p : PT) : ∀ k, txt (brs k p) = List.replicate k 40 ++ (txt p ++ List.replicate k 41)
  | 0 => by simp [brs]
  | k + 1 => by
    show 40 :: (txt (brs k p) ++ [41]) = _
    rw [brs_txt p k, List.append_assoc, List.append_assoc, rep_app]
    simp [List.replicate_succ]
theorem nts_txt : ∀ k, txt (nts k) = (List.replicate k (codes "not ")).flatten ++ codes "yes"
  | 0 => rfl
  | k + 1 => by
    show codes "not" ++ 32 :: txt (nts k) = _
    rw [nts_txt k, List.replicate_succ, List.flatten_cons, s_notC]
    simp
theorem brs_ok {z : Str} {p : PT} (h : okP z p) : ∀ k, okP z (brs k p)
  | 0 => h
  | k + 1 => brs_ok h k
theorem nts_ok {z : Str} : ∀ k, okP z (nts k) ∧ 4 ≤ bindP (nts k)
  | 0 => ⟨yes_v, by decide⟩
  | k + 1 => ⟨⟨(nts_ok (z := z) k).2, nts_ok k |>.1⟩, Nat.le_refl _⟩
theorem brs_dep (p : PT) : ∀ k, depP (brs k p) = k + depP p
  | 0 => by simp [brs]
  | k + 1 => by show depP (brs k p) + 1 = _; rw [brs_dep p k]; omega
theorem nts_dep : ∀ k, depP (nts k) = k
  | 0 => rfl
  | k + 1 => by show depP (nts k) + 1 = _; rw [nts_dep k]
theorem brs_erase (p : PT) : ∀ k, erase (brs k p) = erase p
  | 0 => rfl
  | k + 1 => brs_erase p k
def ntsL (k : Nat) : List (List Key) := [.inr "yes"] :: (List.range k).map fun (i : Nat) => [.inr "not", .inl (i : Nat)]
theorem ntsL_len (k : Nat) : (ntsL k).length = k + 1 := by simp [ntsL]
theorem nts_post : ∀ k, post (erase (nts k)) [] = (ntsL k, k)
  | 0 => rfl
  | k + 1 => by
    show putN (post (erase (nts k)) []).1 [.inr "not", .inl ((post (erase (nts k)) []).2 : Nat)] = _
    rw [nts_post k]
    have nin : ¬ inN [.inr "not", .inl ((k : Nat) : Int)] (ntsL k) = true := by
      rw [inN_iff]
      intro h
      rcases List.mem_cons.mp h with h | h
      · exact absurd (congrArg List.length h) (by simp)
      · obtain ⟨i, hi, e⟩ := List.mem_map.mp h
        have := Sum.inl.inj (List.cons.inj (List.cons.inj e).2).1
        have := List.mem_range.mp hi
        omega
    unfold putN
    rw [if_neg nin]
    simp only [ntsL_len]
    refine Prod.ext ?_ rfl
    simp [ntsL, List.range_succ]
theorem ch_ok {z : Str} {p : PT} (h : okP z p) (hb : 3 ≤ bindP p) : ∀ k, okP z (ch p k) ∧ 2 ≤ bindP (ch p k) ∧ depP (ch p k) = depP p
  | 0 => ⟨h, by show 2 ≤ bindP p; omega, rfl⟩
  | k + 1 => by
    obtain ⟨a, b, c⟩ := ch_ok h hb k
    have j1 : ("and" : Str) ∈ joinL ∧ bindJ "and" = 2 := by decide +kernel
    have j2 : leastL "and" = 2 := by unfold leastL; rw [j1.2]; rfl
    refine ⟨⟨j1.1, by rw [j2]; exact b, by rw [j1.2]; exact hb, a, h⟩, by show 2 ≤ bindJ "and"; rw [j1.2]; exact Nat.le_refl _, ?_⟩
    show max (depP (ch p k)) (depP p) = _
    rw [c]; simp
theorem ch_txt (p : PT) : ∀ k, txt (ch p k) = txt p ++ (List.replicate k (codes " and " ++ txt p)).flatten
  | 0 => by simp [ch]
  | k + 1 => by
    have ca : codes " and " = 32 :: (codes "and" ++ [32]) := by decide +kernel
    show txt (ch p k) ++ 32 :: (codes "and" ++ 32 :: txt p) = _
    rw [ch_txt p k, List.replicate_succ', List.flatten_append, ca]
    simp
theorem join_codes (s : Str) : ∀ (xs : List Str) (x : Str), codes (Txt.join s (x :: xs)) = codes x ++ (xs.map fun y => codes s ++ codes y).flatten := by
  have go : ∀ (xs : List Str) (a : Array Nat), (xs.foldl (fun acc p => acc ++ s.cps ++ p.cps) a).toList = a.toList ++ (xs.map fun y => codes s ++ codes y).flatten := by
    intro xs
    induction xs with
    | nil => intro a; simp
    | cons y ys ih =>
      intro a
      rw [List.foldl_cons, ih, List.map_cons, List.flatten_cons]
      simp [codes]
  intro xs x
  show ((xs.foldl (fun acc p => acc ++ s.cps ++ p.cps) x.cps)).toList = _
  rw [go]; rfl
def yL (k : Nat) : List (List Key) := [.inr "yes"] :: (List.range k).map fun (i : Nat) => [.inr "and", .inl (i : Nat), .inl 0]
theorem yL_len (k : Nat) : (yL k).length = k + 1 := by simp [yL]
theorem yes_post (k : Nat) : post (erase (ch yesP k)) [] = (yL k, k) := by
  induction k with
  | zero => rfl
  | succ k ih =>
    show putN (post (erase yesP) (post (erase (ch yesP k)) []).1).1 [.inr "and", .inl ((post (erase (ch yesP k)) []).2 : Nat), .inl ((post (erase yesP) (post (erase (ch yesP k)) []).1).2 : Nat)] = _
    rw [ih]
    have hy : post (erase yesP) (yL k) = (yL k, 0) := by
      show putN (yL k) [.inr "yes"] = _
      unfold putN
      rw [if_pos (by simp [inN, yL])]
      refine Prod.ext rfl ?_
      simp [idxOf, yL, List.findIdx_cons]
    simp only
    rw [hy]
    have nin : ¬ inN [.inr "and", .inl ((k : Nat) : Int), .inl ((0 : Nat) : Int)] (yL k) = true := by
      rw [inN_iff]
      intro h
      rcases List.mem_cons.mp h with h | h
      · exact absurd (congrArg List.length h) (by simp)
      · obtain ⟨i, hi, e⟩ := List.mem_map.mp h
        have := Sum.inl.inj (List.cons.inj (List.cons.inj e).2).1
        have := List.mem_range.mp hi
        omega
    unfold putN
    rw [if_neg nin]
    simp only [yL_len]
    refine Prod.ext ?_ rfl
    simp [yL, List.range_succ]
def bareP : PT := .atom [.inr "bare"]
theorem bare_post (k : Nat) : post (erase (.jn "and" (ch yesP k) bareP)) [] = (yL k ++ [[.inr "bare"], [.inr "and", .inl (k : Nat), .inl ((k + 1 : Nat))]], k + 2) := by
  show putN (post (erase bareP) (post (erase (ch yesP k)) []).1).1 [.inr "and", .inl ((post (erase (ch yesP k)) []).2 : Nat), .inl ((post (erase bareP) (post (erase (ch yesP k)) []).1).2 : Nat)] = _
  rw [yes_post]
  have nb : ("yes" : Str) ≠ "bare" := by decide +kernel
  have hb : post (erase bareP) (yL k) = (yL k ++ [[.inr "bare"]], k + 1) := by
    show putN (yL k) [.inr "bare"] = _
    have nin : ¬ inN [.inr "bare"] (yL k) = true := by
      rw [inN_iff]
      intro h
      rcases List.mem_cons.mp h with h | h
      · exact nb (Sum.inr.inj (List.cons.inj h).1).symm
      · obtain ⟨i, hi, e⟩ := List.mem_map.mp h
        exact absurd (congrArg List.length e) (by simp)
    unfold putN
    rw [if_neg nin, yL_len]
  simp only
  rw [hb]
  have nin : ¬ inN [.inr "and", .inl ((k : Nat) : Int), .inl ((k + 1 : Nat) : Int)] (yL k ++ [[.inr "bare"]]) = true := by
    rw [inN_iff]
    intro h
    rcases List.mem_append.mp h with h | h
    · rcases List.mem_cons.mp h with h | h
      · exact absurd (congrArg List.length h) (by simp)
      · obtain ⟨i, hi, e⟩ := List.mem_map.mp h
        have := Sum.inl.inj (List.cons.inj (List.cons.inj e).2).1
        have := List.mem_range.mp hi
        omega
    · exact absurd (congrArg List.length (List.mem_singleton.mp h)) (by simp)
  unfold putN
  rw [if_neg nin]
  refine Prod.ext ?_ ?_
  · simp
  · simp [yL_len]
end L2.EV
set_option maxHeartbeats 1000000
/-! K01L42: the law: the two sheets. -/
namespace L2.EV
open PySem PySem.Spec PyProof.Rows
structure LwSt (m0 m : Mem) (dr ps p1 p2 pt : Addr) (sh1 sh2 : List (List Key)) (ts : List D) : Prop where
  sub : Sub m0 m
  hd : SrcAt m dr
  hs : m ps = some (.lst [.ref p1, .ref p2])
  h1 : m p1 = some (lstN sh1)
  h2 : m p2 = some (lstN sh2)
  ht : m pt = some (.lst ts)
  fd : m0 dr = none
  ft : m0 pt = none
  n : dr ≠ ps ∧ dr ≠ p1 ∧ dr ≠ p2 ∧ dr ≠ pt ∧ pt ≠ ps ∧ pt ≠ p1 ∧ pt ≠ p2
section
variable {m0 m m' : Mem} {dr ps p1 p2 pt : Addr} {sh1 sh2 : List (List Key)} {ts : List D}
theorem LwSt.new {p : Addr} {o : MO} (h : LwSt m0 m dr ps p1 p2 pt sh1 sh2 ts) (hp : m p = none) : LwSt m0 (mup m p o) dr ps p1 p2 pt sh1 sh2 ts := by
  refine ⟨h.sub.trans (sub_p hp), (h.hd.fresh hp).1, ?_, ?_, ?_, ?_, h.fd, h.ft, h.n⟩
  · rw [mup_ne (ne_new h.hs hp)]; exact h.hs
  · rw [mup_ne (ne_new h.h1 hp)]; exact h.h1
  · rw [mup_ne (ne_new h.h2 hp)]; exact h.h2
  · rw [mup_ne (ne_new h.ht hp)]; exact h.ht
theorem LwSt.drs (h : LwSt m0 m dr ps p1 p2 pt sh1 sh2 ts) (e : ∀ b, b ≠ dr → m' b = m b) (hd : SrcAt m' dr) : LwSt m0 m' dr ps p1 p2 pt sh1 sh2 ts := by
  obtain ⟨n1, n2, n3, n4, n5, n6, n7⟩ := h.n
  exact ⟨fun b o q => by rw [e b (ne_new q h.fd)]; exact h.sub b o q, hd, by rw [e _ n1.symm]; exact h.hs, by rw [e _ n2.symm]; exact h.h1, by rw [e _ n3.symm]; exact h.h2, by rw [e _ n4.symm]; exact h.ht, h.fd, h.ft, h.n⟩
theorem LwSt.txt {ts' : List D} (h : LwSt m0 m dr ps p1 p2 pt sh1 sh2 ts) : LwSt m0 (mup m pt (.lst ts')) dr ps p1 p2 pt sh1 sh2 ts' := by
  obtain ⟨n1, n2, n3, n4, n5, n6, n7⟩ := h.n
  refine ⟨fun b o q => by rw [mup_ne (ne_new q h.ft)]; exact h.sub b o q, ?_, ?_, ?_, ?_, mup_same, h.fd, h.ft, h.n⟩
  · obtain ⟨d, s, c, q⟩ := h.hd
    exact ⟨d, s, c, by rw [mup_ne n4]; exact q⟩
  · rw [mup_ne n5.symm]; exact h.hs
  · rw [mup_ne n6.symm]; exact h.h1
  · rw [mup_ne n7.symm]; exact h.h2
end
theorem x_ltidy {p q : Addr} {n : Nat} {z : Str} {sh ns : List (List Key)} {m : Mem} {Q : QD} {X : XD} (hp : m p = some (lstN sh)) (hq : m q = some (lstN ns)) (pq : p ≠ q) (hv : SheetV z sh) (hz : zOk z) (hn : n < sh.length) (hl : sh.length ≤ 7) (hns : NsOk ns) (hsz : ns.length + trSz (trOf sh n) < 1000)
    (h : Q (dI (post (trOf sh n) ns).2) (mup m q (lstN (post (trOf sh n) ns).1))) : g__law_tidy [.ref p, dI n, .ref q] m Q X := ⟨p, n, q, z, sh, ns, rfl, pq, hp, hq, hv, hz, hn, by omega, hns, hsz, h⟩
theorem dNe_ns {a b : List (List Key)} {m : Mem} {Q : QD} (ha : NsOk a) (hb : NsOk b) : dNe (.tup (a.map dN)) (.tup (b.map dN)) m Q = Q (.bl (!decide (a = b))) m := by
  have ok : ∀ {a : List (List Key)}, NsOk a → cmpOk (.tup (a.map dN)) := fun {a} ha => by
    obtain ⟨h1, h2⟩ := ns_plain ha
    exact ⟨h1, by show 1 + deps (a.map dN) ≤ 60; omega⟩
  simp only [dNe, norm]
  rw [eq_true (ok ha), eq_true (ok hb), true_and, true_and]
  show Q (.bl (!eqDs (a.map dN) (b.map dN))) m = _
  rw [eq_ns]
theorem post_nsOk {z : Str} (hz : zOk z) {sh : List (List Key)} (hv : SheetV z sh) {n : Nat} (hn : n < sh.length) : NsOk (post (trOf sh n) []).1 := post_ok (trOk_of hz hv n hn) (fun _ h => by cases h)
/-- a text written -/
theorem x_writ {p : Addr} {n : Nat} {sd : D} {z : Str} {sh : List (List Key)} {m : Mem} {Q : QD} {X : XD} (hp : m p = some (lstN sh)) (hs : ∀ a, sd = .ref a → a ≠ p ∧ SrcAt m a) (h0 : sd = .non ∨ ∃ a, sd = .ref a) (hv : SheetV z sh) (hz : zOk z) (hn : n < sh.length) (hl : sh.length ≤ 7) (hsz : trSz (trOf sh n) ≤ 100)
    (h : ∀ q t m', WrOk z (trOf sh n) q → codes t = txt q → (∀ b, sd ≠ .ref b → m' b = m b) → (∀ a, sd = .ref a → SrcAt m' a) → Q (.str t) m') : g__law_written [.ref p, dI n, sd] m Q X := by
  refine ⟨p, n, sd, z, sh, rfl, fun a e => (hs a e).1, hp, ?_, hv, hz, hn, by omega, hsz, fun q t m' ok ct to => ?_⟩
  · rcases h0 with e | ⟨a, e⟩
    · exact .inl e
    · exact .inr ⟨a, e, (hs a e).2⟩
  · refine h q t m' ok ct (SrcTo.same to).1 fun a e => ?_
    rcases to with ⟨e2, _⟩ | ⟨a', d, s, c, e2, rfl⟩
    · rw [e] at e2; cases e2
    · rw [e] at e2; cases e2
      exact ⟨d, s, c, mup_same⟩
def lwIn : ES := (sSeq (sAsg (gN 16) (eCall g_read_saying [] (aCons (eVar 2) (aCons (eVar 13) aNil))))
    (sIf (tOr (tOf (eBin dNe (eVar 16) (eVar 12))) (tNot (tTru (eB bIsi (aCons (eVar 16) (aCons (eK (.ty "tuple")) aNil))))))
     (sRet (eK (.bl false)))
     sNil))
def lwB1 : ES :=
   (sSeq (sAsg (gN 10) (eLst aNil))
   (sSeq (sExpr (eCall g__law_tidy [] (aCons (eVar 6) (aCons (eBin dSub (eB bLen (aCons (eVar 6) aNil)) (eK (.int 1))) (aCons (eVar 10) aNil)))))
   (sSeq (sAsg (gN 12) (eB bTuple (aCons (eVar 10) aNil)))
   (sSeq (sForS (iSeq (eLst (aCons (eCall g__law_written [] (aCons (eVar 6) (aCons (eBin dSub (eB bLen (aCons (eVar 6) aNil)) (eK (.int 1))) (aCons (eVar 3) aNil)))) (aCons (eCall g__law_written [] (aCons (eVar 6) (aCons (eBin dSub (eB bLen (aCons (eVar 6) aNil)) (eK (.int 1))) (aCons (eK .non) aNil)))) aNil)))) (gN 13) lwIn)
   (sSeq (sExpr (eM isLst mAppend (eVar 5) (aCons (eVar 13) aNil)))
   (sIf (tOr (tOf (eBin dNe (eCall (shG g_checked_sheet) [] (aCons (eVar 2) (aCons (eVar 12) aNil))) (eVar 12))) (tOr (tOf (eBin dNe (eCall g_tidy_saying [] (aCons (eVar 2) (aCons (eVar 12) aNil))) (eVar 12))) (tOf (eBin dNe (eCall g_tidy_saying [] (aCons (eVar 2) (aCons (eVar 6) aNil))) (eVar 12)))))
    (sRet (eK (.bl false)))
    sNil))))))
/-- a text that is read as it shall -/
theorem lw_in {z t : Str} {q : PT} {ns : List (List Key)} {m : Mem} {Z : Zs} {e : Sl} {o16 : Option D} {a b c d f g h i j k l n : Option D} (hz : zNm z) (ok : okP z q) (hd : depP q ≤ 30) (ct : codes t = txt q) (hl : t.length ≤ 900000) (hns : NsOk ns) (en : (post (erase q) []).1 = ns)
    (he : e = [a, b, some (.str z), c, d, f, g, h, i, j, k, l, some (.tup (ns.map dN)), some (.str t), n, n, o16]) (hf : Z.nx [a, b, some (.str z), c, d, f, g, h, i, j, k, l, some (.tup (ns.map dN)), some (.str t), n, n, some (.tup (ns.map dN))] m) : lwIn e m Z := by
  subst he
  rw [lwIn, sSeq]
  simp only [sAsg, eCall, aCons, aNil, eVar, List.getElem?_cons_zero, List.getElem?_cons_succ, List.set_cons_succ, List.set_cons_zero, List.append_nil]
  refine x_read hz ok hd ct hl ?_
  rw [en]
  simp only [gN, List.getElem?_cons_zero, List.getElem?_cons_succ, List.set_cons_succ, List.set_cons_zero, List.append_nil, sIf, tOr, tOf, tNot, tTru, eBin, eB, aCons, aNil, eVar, eK]
  rw [dNe_ns hns hns, decide_eq_true rfl]
  simp only [bK, bIsi, d2Q]
  refine ⟨fun z => (by cases z), fun _ => ⟨by decide +kernel, ?_⟩⟩
  have ty : (([("tuple" : String)] : List String).any (isTy "tuple")) = true := by decide +kernel
  rw [ty]
  simp only [truK, Bool.not_true]
  exact ⟨fun z => (by cases z), fun _ => hf⟩
/-- one sheet -/
theorem lw_step {m0 m : Mem} {src dr ps p1 p2 pt p : Addr} {sh1 sh2 sh : List (List Key)} {ts : List D} {z : Str} {sc : D} {Z : Zs} {o7 o8 o9 o10 o11 o12 o13 o14 o16 : Option D} (st : LwSt m0 m dr ps p1 p2 pt sh1 sh2 ts) (hz : zNm z) (hp : ∀ m', LwSt m0 m' dr ps p1 p2 pt sh1 sh2 ts → m' p = some (lstN sh)) (pd : dr ≠ p) (pp : pt ≠ p)
    (hp' : ∀ m' ts', LwSt m0 m' dr ps p1 p2 pt sh1 sh2 ts' → m' p = some (lstN sh)) (hsh : shN z 7 sh) (hsz : trSz (trOf sh (sh.length - 1)) < 40) (hts : ts.length ≤ 5)
    (h : ∀ t q m' o10 o12 o13 o16, WrOk z (trOf sh (sh.length - 1)) q → codes t = txt q → LwSt m0 m' dr ps p1 p2 pt sh1 sh2 (ts ++ [.str t]) → Z.nx [some sc, some (.ref src), some (.str z), some (.ref dr), some (.ref ps), some (.ref pt), some (.ref p), o7, o8, o9, o10, o11, o12, o13, o14, o14, o16] m') :
    lwB1 [some sc, some (.ref src), some (.str z), some (.ref dr), some (.ref ps), some (.ref pt), some (.ref p), o7, o8, o9, o10, o11, o12, o13, o14, o14, o16] m Z := by
  obtain ⟨V, l1, l2⟩ := hsh
  have hz' := hz.len.2.2.1
  have hn : sh.length - 1 < sh.length := by omega
  have h9 : 9000 ≤ sizeLine := by rw [sizeLine_eq]; decide
  have elen : ((sh.map dN).length : Int) - 1 = ((sh.length - 1 : Nat) : Int) := by rw [List.length_map]; omega
  have hH := trH_le V (sh.length - 1) hn
  rw [lwB1, sSeq]
  simp only [sAsg, eLst, aNil, dRef, gN, List.getElem?_cons_zero, List.getElem?_cons_succ, List.set_cons_succ, List.set_cons_zero, List.append_nil, List.length_nil]
  refine ⟨Nat.zero_le _, fun pn hpn => ?_⟩
  have st1 := st.new (o := .lst []) hpn
  have q1 := hp _ st1
  rw [sSeq]
  simp only [sExpr, eCall, eBin, eB, aCons, aNil, eVar, eK, List.getElem?_cons_zero, List.getElem?_cons_succ, List.set_cons_succ, List.set_cons_zero, List.append_nil, bLen, d1Q, lenQ, q1, lstN, dSub]
  rw [elen]
  have npn : p ≠ pn := ne_new (hp _ st) hpn
  refine x_ltidy (ns := []) q1 mup_same npn V hz' hn l2 (fun _ h => by cases h) (by simp; omega) ?_
  rw [mup_mup]
  generalize hns : (post (trOf sh (sh.length - 1)) []).1 = ns
  have okn : NsOk ns := by rw [← hns]; exact post_nsOk hz' V hn
  have tid := tidy_again (trG_of V (sh.length - 1) hn)
  rw [hns] at tid
  obtain ⟨td1, td2, td3⟩ := tid
  have nlen : ns.length ≤ 40 := by
    have := post_le (trOf sh (sh.length - 1)) []
    rw [hns] at this; simp at this; omega
  have st2 := st.new (o := lstN ns) hpn
  have q2 : mup m pn (lstN ns) pn = some (.lst (ns.map dN)) := mup_same
  generalize mup m pn (lstN ns) = m2 at st2 q2 ⊢
  rw [sSeq]
  simp only [sAsg, eB, aCons, aNil, eVar, gN, List.getElem?_cons_zero, List.getElem?_cons_succ, List.set_cons_succ, List.set_cons_zero, List.append_nil, bTuple, d1Q, tupQ, q2]
  have q3 := hp _ st2
  simp only [sSeq, sForS, iSeq, eLst, eCall, eBin, eB, aCons, aNil, eVar, eK, List.getElem?_cons_zero, List.getElem?_cons_succ, List.set_cons_succ, List.set_cons_zero, List.append_nil, bLen, d1Q, lenQ, q3, lstN, dSub]
  rw [elen]
  refine x_writ (z := z) q3 (fun a e => by cases e; exact ⟨pd, st2.hd⟩) (.inr ⟨_, rfl⟩) V hz' hn l2 (by omega) fun qa ta m3 oka cta s3 d3 => ?_
  have st3 := st2.drs (fun b n => s3 b (fun e => n (D.ref.inj e).symm)) (d3 dr rfl)
  have q4 := hp _ st3
  simp only [q4, lstN]
  rw [elen]
  refine x_writ (z := z) q4 (fun a e => by cases e) (.inl rfl) V hz' hn l2 (by omega) fun qb tb m4 okb ctb s4 _ => ?_
  have e4 : m4 = m3 := funext fun b => s4 b (fun e => by cases e)
  subst e4
  refine ⟨(by show 2 ≤ _; omega), ?_⟩
  simp only [dRef]
  intro pi hpi
  have st4 := st3.new (o := .lst [.str ta, .str tb]) hpi
  have qi : mup m4 pi (.lst [.str ta, .str tb]) pi = some (.lst [.str ta, .str tb]) := mup_same
  generalize mup m4 pi (.lst [.str ta, .str tb]) = m5 at st4 qi ⊢
  simp only [iterQ, qi]
  have dpa : depP qa ≤ 30 := by have := oka.dp; omega
  have dpb : depP qb ≤ 30 := by have := okb.dp; omega
  have lta : ta.length ≤ 900000 := by rw [codes_len, cta]; have := oka.len; omega
  have ltb : tb.length ≤ 900000 := by rw [codes_len, ctb]; have := okb.len; omega
  refine ⟨qi, ?_⟩
  simp only [gN, List.getElem?_cons_zero, List.getElem?_cons_succ, List.set_cons_succ, List.set_cons_zero, List.append_nil]
  refine lw_in hz oka.ok dpa cta lta okn (by rw [oka.er, hns]) rfl ?_
  refine shM_of ⟨qi, ?_⟩
  simp only [gN, List.getElem?_cons_zero, List.getElem?_cons_succ, List.set_cons_succ, List.set_cons_zero, List.append_nil]
  refine lw_in hz okb.ok dpb ctb ltb okn (by rw [okb.er, hns]) rfl ?_
  refine shM_of ⟨qi, ?_⟩
  simp only [sExpr, eM, aCons, aNil, eVar, List.getElem?_cons_zero, List.getElem?_cons_succ, List.set_cons_succ, List.set_cons_zero, List.append_nil, isLst, st4.ht, mAppend, lstQ, d1Q]
  refine ⟨trivial, by omega, ?_⟩
  have st5 := st4.txt (ts' := ts ++ [.str tb])
  generalize mup m5 pt (.lst (ts ++ [.str tb])) = m6 at st5 ⊢
  have shd : ∀ m', isSheet m' (.tup (ns.map dN)) ns := fun m' => isSheet_of hz' td2 td3 (by omega) rfl ty_tup
  have q6 := hp' _ _ st5
  have shs : isSheet m6 (.ref p) sh := isSheet_of hz' V l1 (by omega) (by simp only [lstd, q6, lstN]) (ty_lst q6)
  simp only [sIf, tOr, tOf, eBin, eCall, aCons, aNil, eVar, List.getElem?_cons_zero, List.getElem?_cons_succ, List.set_cons_succ, List.set_cons_zero, List.append_nil]
  refine x_checked_sheet hz.ty (shd m6).1 (fun q => by rw [show namesOk (.str z) = true from hz] at q; cases q) fun z' e _ => ?_
  cases e
  rw [(shd m6).2.2 z td2]
  show (dNe (deepD 30 m6 (.tup (ns.map dN))) _ m6 _)
  rw [(shd m6).2.1, dNe_ns okn okn, decide_eq_true rfl]
  simp only [bK]
  refine ⟨fun z => (by cases z), fun _ => ?_⟩
  refine ⟨z, _, ns, rfl, hz.ty, hz, shd m6, ⟨td2, td3, by omega⟩, ?_⟩
  rw [td1]
  show dNe (.tup (ns.map dN)) (.tup (ns.map dN)) m6 _
  rw [dNe_ns okn okn, decide_eq_true rfl]
  simp only [bK]
  refine ⟨fun z => (by cases z), fun _ => ?_⟩
  refine ⟨z, _, sh, rfl, hz.ty, hz, shs, ⟨V, l1, by omega⟩, ?_⟩
  rw [show tidyS sh = ns from hns]
  show dNe (.tup (ns.map dN)) (.tup (ns.map dN)) m6 _
  rw [dNe_ns okn okn, decide_eq_true rfl]
  simp only [bK]
  refine ⟨fun z => (by cases z), fun _ => ?_⟩
  simp only [sNil]
  exact h tb qb m6 _ _ _ _ okb ctb st5
end L2.EV
set_option maxHeartbeats 1000000
/-! K01L43: the law: both texts joined. -/
namespace L2.EV
open PySem PySem.Spec PyProof.Rows
def lwB2 : ES :=
   (sSeq (sAsg (gN 10) (eLst aNil))
   (sSeq (sAsg (gN 14) (eCall g__law_tidy [] (aCons (eBin (dIx TT) (eVar 4) (eK (.int 0))) (aCons (eBin dSub (eB bLen (aCons (eBin (dIx TT) (eVar 4) (eK (.int 0))) aNil)) (eK (.int 1))) (aCons (eVar 10) aNil)))))
   (sSeq (sAsg (gN 15) (eCall g__law_tidy [] (aCons (eBin (dIx TT) (eVar 4) (eK (.int 1))) (aCons (eBin dSub (eB bLen (aCons (eBin (dIx TT) (eVar 4) (eK (.int 1))) aNil)) (eK (.int 1))) (aCons (eVar 10) aNil)))))
   (sSeq (sExpr (eCall g__law_listed [] (aCons (eVar 10) (aCons (eTup (aCons (eVar 7) (aCons (eVar 14) (aCons (eVar 15) aNil)))) aNil))))
   (sIf (tOf (eBin dNe (eCall g_read_saying [] (aCons (eVar 2) (aCons (eBin dAdd (eBin dAdd (eBin dAdd (eBin dAdd (eBin dAdd (eBin dAdd (eK (.str "(")) (eBin (dIx TT) (eVar 5) (eK (.int 0)))) (eK (.str ") "))) (eVar 7)) (eK (.str " ("))) (eBin (dIx TT) (eVar 5) (eK (.int 1)))) (eK (.str ")"))) aNil))) (eB bTuple (aCons (eVar 10) aNil))))
    (sRet (eK (.bl false)))
    sNil)))))
theorem lw_word {m0 m : Mem} {src dr ps p1 p2 pt : Addr} {sh1 sh2 : List (List Key)} {z t1 t2 w : Str} {q1 q2 : PT} {sc : D} {Z : Zs} {o6 o8 o9 o10 o11 o12 o13 o14 o15 o16 : Option D} (st : LwSt m0 m dr ps p1 p2 pt sh1 sh2 [.str t1, .str t2]) (hz : zNm z) (hw : w ∈ joinL)
    (s1 : shN z 7 sh1) (z1 : trSz (trOf sh1 (sh1.length - 1)) < 40) (s2 : shN z 7 sh2) (z2 : trSz (trOf sh2 (sh2.length - 1)) < 40) (k1 : WrOk z (trOf sh1 (sh1.length - 1)) q1) (c1 : codes t1 = txt q1) (k2 : WrOk z (trOf sh2 (sh2.length - 1)) q2) (c2 : codes t2 = txt q2)
    (h : ∀ m' o10 o14 o15, Sub m m' → Z.nx [some sc, some (.ref src), some (.str z), some (.ref dr), some (.ref ps), some (.ref pt), o6, some (.str w), o8, o9, o10, o11, o12, o13, o14, o15, o16] m') :
    lwB2 [some sc, some (.ref src), some (.str z), some (.ref dr), some (.ref ps), some (.ref pt), o6, some (.str w), o8, o9, o10, o11, o12, o13, o14, o15, o16] m Z := by
  obtain ⟨V1, l1, l1'⟩ := s1
  obtain ⟨V2, l2, l2'⟩ := s2
  have hz' := hz.len.2.2.1
  have hn1 : sh1.length - 1 < sh1.length := by omega
  have hn2 : sh2.length - 1 < sh2.length := by omega
  have h9 : 9000 ≤ sizeLine := by rw [sizeLine_eq]; decide
  have el1 : ((sh1.map dN).length : Int) - 1 = ((sh1.length - 1 : Nat) : Int) := by rw [List.length_map]; omega
  have el2 : ((sh2.map dN).length : Int) - 1 = ((sh2.length - 1 : Nat) : Int) := by rw [List.length_map]; omega
  have hH1 := trH_le V1 (sh1.length - 1) hn1
  have hH2 := trH_le V2 (sh2.length - 1) hn2
  rw [lwB2, sSeq]
  simp only [sAsg, eLst, aNil, dRef, gN, List.getElem?_cons_zero, List.getElem?_cons_succ, List.set_cons_succ, List.set_cons_zero, List.append_nil, List.length_nil]
  refine ⟨Nat.zero_le _, fun pn hpn => ?_⟩
  have St : ∀ o, LwSt m0 (mup m pn o) dr ps p1 p2 pt sh1 sh2 [.str t1, .str t2] := fun o => st.new hpn
  have ix0 : ∀ o (Q : QD), dIx TT (.ref ps) (.int 0) (mup m pn o) Q = Q (.ref p1) (mup m pn o) := fun o Q => ixL (i := 0) (St o).hs rfl
  have ix1 : ∀ o (Q : QD), dIx TT (.ref ps) (.int 1) (mup m pn o) Q = Q (.ref p2) (mup m pn o) := fun o Q => ixL (i := 1) (St o).hs rfl
  have n1 : p1 ≠ pn := ne_new st.h1 hpn
  have n2 : p2 ≠ pn := ne_new st.h2 hpn
  simp only [sSeq, sAsg, eCall, eBin, eB, aCons, aNil, eVar, eK, List.getElem?_cons_zero, List.getElem?_cons_succ, List.set_cons_succ, List.set_cons_zero, List.append_nil, ix0, bLen, d1Q, lenQ, (St _).h1, lstN, dSub]
  rw [el1]
  have pl1 := post_le (trOf sh1 (sh1.length - 1)) []
  have pl2 := post_le (trOf sh2 (sh2.length - 1)) (post (trOf sh1 (sh1.length - 1)) []).1
  simp only [List.length_nil, Nat.zero_add] at pl1
  have ok1 := post_nsOk hz' V1 hn1
  have ok2 := post_ok (trOk_of hz' V2 _ hn2) ok1
  refine x_ltidy (ns := []) (St _).h1 mup_same n1 V1 hz' hn1 l1' (fun _ h => by cases h) (by simp; omega) ?_
  rw [mup_mup]
  simp only [gN, List.getElem?_cons_zero, List.getElem?_cons_succ, List.set_cons_succ, List.set_cons_zero, List.append_nil, ix1, lenQ, (St _).h2, lstN]
  rw [el2]
  refine x_ltidy (ns := (post (trOf sh1 (sh1.length - 1)) []).1) (St _).h2 mup_same n2 V2 hz' hn2 l2' ok1 (by omega) ?_
  rw [mup_mup]
  simp only [gN, List.getElem?_cons_zero, List.getElem?_cons_succ, List.set_cons_succ, List.set_cons_zero, List.append_nil, sExpr, eCall, eTup, aCons, aNil, eVar, List.length_cons, List.length_nil]
  refine ⟨by omega, ?_⟩
  refine x_listed (ks := [.inr w, .inl ((post (trOf sh1 (sh1.length - 1)) []).2 : Nat), .inl ((post (trOf sh2 (sh2.length - 1)) (post (trOf sh1 (sh1.length - 1)) []).1).2 : Nat)]) (ns := (post (trOf sh2 (sh2.length - 1)) (post (trOf sh1 (sh1.length - 1)) []).1).1) mup_same (kok_jn hw) ok2 (by omega) ?_
  rw [mup_mup]
  have ok3 := ok2.put (kok_jn (w := w) (i := (post (trOf sh1 (sh1.length - 1)) []).2) (j := (post (trOf sh2 (sh2.length - 1)) (post (trOf sh1 (sh1.length - 1)) []).1).2) hw)
  have eP : (post (erase (.jn w (.br q1) (.br q2))) []).1 = (putN (post (trOf sh2 (sh2.length - 1)) (post (trOf sh1 (sh1.length - 1)) []).1).1 [.inr w, .inl ((post (trOf sh1 (sh1.length - 1)) []).2 : Nat), .inl ((post (trOf sh2 (sh2.length - 1)) (post (trOf sh1 (sh1.length - 1)) []).1).2 : Nat)]).1 := by
    show (post (.jn w (erase q1) (erase q2)) []).1 = _
    rw [k1.er, k2.er]; rfl
  generalize (putN (post (trOf sh2 (sh2.length - 1)) (post (trOf sh1 (sh1.length - 1)) []).1).1 [.inr w, .inl ((post (trOf sh1 (sh1.length - 1)) []).2 : Nat), .inl ((post (trOf sh2 (sh2.length - 1)) (post (trOf sh1 (sh1.length - 1)) []).1).2 : Nat)]).1 = ns3 at eP ok3 ⊢
  have t0 : ∀ o (Q : QD), dIx TT (.ref pt) (.int 0) (mup m pn o) Q = Q (.str t1) (mup m pn o) := fun o Q => ixL (i := 0) (St o).ht rfl
  have t1' : ∀ o (Q : QD), dIx TT (.ref pt) (.int 1) (mup m pn o) Q = Q (.str t2) (mup m pn o) := fun o Q => ixL (i := 1) (St o).ht rfl
  have lt1 : t1.length ≤ 1600 := by rw [codes_len, c1]; have := k1.len; omega
  have lt2 : t2.length ≤ 1600 := by rw [codes_len, c2]; have := k2.len; omega
  have lw := jn_len hw
  have y1 : ("(" : Str).length = 1 ∧ (") " : Str).length = 2 ∧ (" (" : Str).length = 2 ∧ (")" : Str).length = 1 := by decide +kernel
  have y2 : codes ") " = [41, 32] ∧ codes " (" = [32, 40] := by decide +kernel
  simp only [sIf, tOf, eBin, eCall, eB, aCons, aNil, eVar, eK, List.getElem?_cons_zero, List.getElem?_cons_succ, List.set_cons_succ, List.set_cons_zero, List.append_nil, t0, t1', dAdd]
  refine ⟨by omega, by simp only [PySem.Str.length_append]; omega, by simp only [PySem.Str.length_append]; omega, by simp only [PySem.Str.length_append]; omega, by simp only [PySem.Str.length_append]; omega, by simp only [PySem.Str.length_append]; omega, ?_⟩
  obtain ⟨w1, w2, w3, w4, w5, w6⟩ := joinL_bind hw
  refine x_read (p := .jn w (.br q1) (.br q2)) hz ⟨hw, ?_, ?_, k1.ok, k2.ok⟩ ?_ ?_ (by simp only [PySem.Str.length_append]; omega) ?_
  · show leastL w ≤ 5
    unfold leastL; split <;> omega
  · show bindJ w + 1 ≤ 5
    omega
  · show max (depP q1 + 1) (depP q2 + 1) ≤ 30
    have := k1.dp; have := k2.dp; omega
  · simp only [codes_app, s_opC, s_clC, y2.1, y2.2, c1, c2, txt]
    simp
  · rw [eP]
    simp only [bTuple, d1Q, tupQ, mup_same, lstN]
    rw [dNe_ns ok3 ok3, decide_eq_true rfl]
    simp only [bK]
    refine ⟨fun z => (by cases z), fun _ => ?_⟩
    simp only [sNil]
    exact h _ _ _ _ (sub_p hpn)
end L2.EV
set_option maxHeartbeats 1000000
/-! K01L44: the law: the texts that are not drawn. -/
namespace L2.EV
open PySem PySem.Spec PyProof.Rows
theorem mulS {x : Str} {k : Nat} (h1 : x.length ≤ 10) (h2 : k ≤ 2000) : MulOk x ((k : Nat) : Int) := by
  refine ⟨?_, fun h _ => ?_, fun _ _ => ?_⟩
  · rw [decide_eq_false (by omega), decide_eq_false (by omega)]; rfl
  · have hk : (0 : Int) < (k : Int) := by omega
    have : (x.length : Int) ≤ (2 ^ 63 - 1) / (k : Int) := by
      refine (Int.le_ediv_iff_mul_le hk).mpr ?_
      have hm : x.length * k ≤ 10 * 2000 := Nat.mul_le_mul h1 h2
      have : ((x.length * k : Nat) : Int) ≤ 20000 := by omega
      rw [Int.natCast_mul] at this
      omega
    omega
  · have hm : x.length * k ≤ 10 * 2000 := Nat.mul_le_mul h1 h2
    show decide (x.length * (k : Int).toNat > sizeLine) = false
    rw [Int.toNat_natCast]
    exact decide_eq_false (by rw [sizeLine_eq]; omega)
theorem mul_codes (x : Str) (k : Nat) : codes (Txt.mul x ((k : Nat) : Int)) = (List.replicate k (codes x)).flatten := by
  unfold Txt.mul
  split
  · have : k = 0 := by omega
    subst this; rfl
  · split
    · rename_i h1 h2
      simp only [Bool.or_eq_true, beq_iff_eq] at h2
      rcases h2 with h2 | h2
      · have : k = 1 := by omega
        subst this; simp
      · have e : codes x = [] := List.eq_nil_of_length_eq_zero (by rw [← codes_len]; exact h2)
        rw [e]; simp
    · rw [Int.toNat_natCast]
      have go : ∀ (k : Nat) (a : Array Nat), ((List.replicate k x.cps).foldl (fun x1 x2 => x1 ++ x2) a).toList = a.toList ++ (List.replicate k (codes x)).flatten := by
        intro k
        induction k with
        | zero => intro a; simp
        | succ k ih => intro a; rw [List.replicate_succ, List.foldl_cons, ih, List.replicate_succ, List.flatten_cons]; simp [codes]
      show ((List.replicate k x.cps).foldl (fun x1 x2 => x1 ++ x2) #[]).toList = _
      rw [go]; rfl
structure RSt (m0 m : Mem) (dr : Addr) : Prop where
  sub : Sub m0 m
  hd : SrcAt m dr
  fd : m0 dr = none
theorem RSt.new {m0 m : Mem} {dr p : Addr} {o : MO} (h : RSt m0 m dr) (hp : m p = none) : RSt m0 (mup m p o) dr := ⟨h.sub.trans (sub_p hp), (h.hd.fresh hp).1, h.fd⟩
theorem RSt.drs {m0 m m' : Mem} {dr : Addr} (h : RSt m0 m dr) (e : ∀ b, b ≠ dr → m' b = m b) (hd : SrcAt m' dr) : RSt m0 m' dr := ⟨fun b o q => by rw [e b (ne_new q h.fd)]; exact h.sub b o q, hd, h.fd⟩
theorem kok1 {w : Str} (h : PyData.strOk w = true) : KOk [.inr w] := fun k hk s e => by
  have := List.mem_singleton.mp hk; subst this; cases e; exact h
theorem ntsL_ok (k : Nat) : NsOk (ntsL k) := fun ks h => by
  rcases List.mem_cons.mp h with rfl | h
  · exact kok1 (by decide +kernel)
  · obtain ⟨i, _, rfl⟩ := List.mem_map.mp h
    exact kok_not
theorem yL_ok (k : Nat) : NsOk (yL k) := fun ks h => by
  rcases List.mem_cons.mp h with rfl | h
  · exact kok1 (by decide +kernel)
  · obtain ⟨i, _, rfl⟩ := List.mem_map.mp h
    exact kok_jn (i := i) (j := 0) (by decide +kernel)
/-- the list of words not -/
theorem nt_loop {pn : Addr} {m : Mem} {Z : Zs} {a b c d f g h i j k l n o q s : Option D} {N : Nat} (hN : N ≤ 100) (hf : ∀ o11, Z.nx [a, b, c, d, f, g, h, i, j, k, some (.ref pn), o11, l, n, o, q, s] (mup m pn (lstN (ntsL N)))) : ∀ (r K : Nat) (o11 : Option D), K + r = N →
    forS noG (gN 11) (sExpr (eM isLst mAppend (eVar 10) (aCons (eTup (aCons (eK (.str "not")) (aCons (eVar 11) aNil))) aNil))) Z ((List.range' K r).map fun (i : Nat) => D.int (i : Nat)) [a, b, c, d, f, g, h, i, j, k, some (.ref pn), o11, l, n, o, q, s] (mup m pn (lstN (ntsL K)))
  | 0, K, o11, e => ⟨trivial, by rw [Nat.add_zero] at e; subst e; exact hf o11⟩
  | r + 1, K, o11, e => by
    refine ⟨trivial, ?_⟩
    simp only [gN, List.getElem?_cons_zero, List.getElem?_cons_succ, List.set_cons_succ, List.set_cons_zero, List.append_nil, sExpr, eM, eTup, aCons, aNil, eVar, eK, isLst, mup_same, lstN, mAppend, lstQ, d1Q]
    refine ⟨trivial, by rw [sizeLine_eq]; simp, by rw [List.length_map, ntsL_len, sizeLine_eq]; omega, shM_of ?_⟩
    rw [mup_mup]
    have e1 : (ntsL K).map dN ++ [.tup [.str "not", .int ((K : Nat) : Int)]] = (ntsL (K + 1)).map dN := by
      simp [ntsL, List.range_succ, dN, dK]
    rw [e1]
    exact nt_loop hN hf r (K + 1) _ (by omega)
def lwR3 : ES :=
  (sSeq (sAsg (gN 8) (eBin dAdd (eK (.int 1)) (eCall g__law_pick [] (aCons (eVar 3) (aCons (eK (.int 262)) aNil)))))
  (sSeq (sAsg (gN 10) (eBin dAdd (eBin dAdd (eLst (aCons (eTup (aCons (eK (.str "yes")) aNil)) aNil)) (eLc (iR1 (aCons (eBin dSub (eVar 8) (eK (.int 1))) aNil)) (gN 11) tYesD (eTup (aCons (eK (.str "and")) (aCons (eVar 11) (aCons (eK (.int 0)) aNil)))) [11])) (eLst (aCons (eTup (aCons (eK (.str "bare")) aNil)) (aCons (eTup (aCons (eK (.str "and")) (aCons (eBin dSub (eVar 8) (eK (.int 1))) (aCons (eVar 8) aNil)))) aNil)))))
  (sSeq (sIf (tOf (eBin dNe (eCall g_read_saying [] (aCons (eVar 2) (aCons (eM isStr mJoin (eK (.str " and ")) (aCons (eBin dAdd (eBin dMul (eLst (aCons (eK (.str "yes")) aNil)) (eVar 8)) (eLst (aCons (eK (.str "bare")) aNil))) aNil)) aNil))) (eB bTuple (aCons (eVar 10) aNil))))
   (sRet (eK (.bl false)))
   sNil)
  (sRet (eCall g__law_refused [] (aCons (eVar 2) aNil))))))
theorem sumRep (a : Nat) : ∀ n, (List.replicate n a).sum = n * a
  | 0 => by simp
  | n + 1 => by rw [List.replicate_succ, List.sum_cons, sumRep a n, Nat.add_mul]; omega
def yB (v : Nat) : List (List Key) := yL v ++ [[.inr "bare"], [.inr "and", .inl (v : Nat), .inl ((v + 1 : Nat))]]
theorem lw_R3 {m0 m : Mem} {dr : Addr} {z : Str} {Q : QD} {X : XD} {o0 o1 o4 o5 o6 o7 o8 o9 o10 o11 o12 o13 o14 o15 o16 : Option D} (st : RSt m0 m dr) (hz : zNm z) (h : Q (.bl true) m0) :
    lwR3 [o0, o1, some (.str z), some (.ref dr), o4, o5, o6, o7, o8, o9, o10, o11, o12, o13, o14, o15, o16] m (zsS Q X) := by
  have h9 : 9000 ≤ sizeLine := by rw [sizeLine_eq]; decide
  rw [lwR3, sSeq]
  simp only [sAsg, eBin, eCall, aCons, aNil, eVar, eK, List.getElem?_cons_zero, List.getElem?_cons_succ, List.set_cons_succ, List.set_cons_zero, List.append_nil]
  refine x_pick (n := 262) st.hd (by decide) (by decide) fun v m1 hv hd1 s1 => ?_
  have st1 := st.drs s1 hd1
  simp only [dI, dAdd, gN, List.getElem?_cons_zero, List.getElem?_cons_succ, List.set_cons_succ, List.set_cons_zero, List.append_nil]
  have ev : (1 : Int) + (v : Int) - 1 = ((v : Nat) : Int) := by omega
  have ev1 : (1 : Int) + (v : Int) = ((v + 1 : Nat) : Int) := by omega
  simp only [sSeq, sAsg, eBin, eLst, eTup, aCons, aNil, eVar, eK, List.getElem?_cons_zero, List.getElem?_cons_succ, List.set_cons_succ, List.set_cons_zero, List.append_nil, dRef, eLc, iR1, dSub]
  rw [ev]
  refine ⟨(by show 1 ≤ _; omega), (by show 1 ≤ _; omega), fun pa hpa => ⟨⟨by omega, by omega⟩, fun pb hpb => ?_⟩⟩
  have nab : pa ≠ pb := ne_new mup_same hpb
  have st2 := (st1.new (o := .lst [.tup [.str "yes"]]) hpa)
  have qa : mup m1 pa (.lst [.tup [.str "yes"]]) pa = some (.lst [.tup [.str "yes"]]) := mup_same
  generalize mup m1 pa (.lst [.tup [.str "yes"]]) = m2 at st2 qa hpb ⊢
  rw [Int.toNat_natCast]
  refine lc_exM (f := fun d => .tup [.str "and", d, .int 0]) (fun acc => trivial) (fun x hx acc kk hk => ?_) (by rw [List.length_map, List.length_range]; omega) ?_
  · simp only [wipeD, List.getElem?_cons_zero, List.getElem?_cons_succ, List.set_cons_succ, List.set_cons_zero, List.append_nil, eTup, aCons, aNil, eVar, eK]
    exact ⟨(by show 3 ≤ _; omega), hk⟩
  rw [List.map_map]
  have st3 := st2.new (o := .lst ((List.range v).map ((fun d => D.tup [.str "and", d, .int 0]) ∘ fun (i : Nat) => D.int (i : Nat)))) hpb
  have qa3 : mup m2 pb (.lst ((List.range v).map ((fun d => D.tup [.str "and", d, .int 0]) ∘ fun (i : Nat) => D.int (i : Nat)))) pa = some (.lst [.tup [.str "yes"]]) := by rw [mup_ne nab]; exact qa
  have qb3 : mup m2 pb (.lst ((List.range v).map ((fun d => D.tup [.str "and", d, .int 0]) ∘ fun (i : Nat) => D.int (i : Nat)))) pb = some (.lst ((List.range v).map ((fun d => D.tup [.str "and", d, .int 0]) ∘ fun (i : Nat) => D.int (i : Nat)))) := mup_same
  generalize mup m2 pb (.lst ((List.range v).map ((fun d => D.tup [.str "and", d, .int 0]) ∘ fun (i : Nat) => D.int (i : Nat)))) = m3 at st3 qa3 qb3 ⊢
  simp only [dAdd, qa3, qb3, dRef]
  refine ⟨by simp only [List.length_cons, List.length_nil, List.length_map, List.length_range]; omega, fun pc hpc => ⟨(by show 1 ≤ _; omega), (by show 3 ≤ _; omega), (by show 2 ≤ _; omega), fun pd hpd => ?_⟩⟩
  have ncd : pc ≠ pd := ne_new mup_same hpd
  rw [mup_ne ncd, mup_same, mup_same]
  simp only
  have eL : ([D.tup [.str "yes"]] ++ (List.range v).map ((fun d => D.tup [.str "and", d, .int 0]) ∘ fun (i : Nat) => D.int (i : Nat))) ++ [D.tup [.str "bare"], D.tup [.str "and", .int (v : Int), .int (1 + (v : Int))]] = (yB v).map dN := by
    rw [ev1]
    simp [yB, yL, dN, dK, Function.comp_def]
  rw [eL]
  have st4 := (st3.new (o := .lst ([D.tup [.str "yes"]] ++ (List.range v).map ((fun d => D.tup [.str "and", d, .int 0]) ∘ fun (i : Nat) => D.int (i : Nat)))) hpc).new (o := .lst [D.tup [.str "bare"], D.tup [.str "and", .int (v : Int), .int (1 + (v : Int))]]) hpd
  refine ⟨by simp only [List.length_cons, List.length_nil, List.length_map, List.length_range, List.length_append]; omega, fun pe hpe => ?_⟩
  have st5 := st4.new (o := .lst ((yB v).map dN)) hpe
  have qe : mup (mup (mup m3 pc (.lst ([D.tup [.str "yes"]] ++ (List.range v).map ((fun d => D.tup [.str "and", d, .int 0]) ∘ fun (i : Nat) => D.int (i : Nat))))) pd (.lst [D.tup [.str "bare"], D.tup [.str "and", .int (v : Int), .int (1 + (v : Int))]])) pe (.lst ((yB v).map dN)) pe = some (.lst ((yB v).map dN)) := mup_same
  generalize mup (mup (mup m3 pc (.lst ([D.tup [.str "yes"]] ++ (List.range v).map ((fun d => D.tup [.str "and", d, .int 0]) ∘ fun (i : Nat) => D.int (i : Nat))))) pd (.lst [D.tup [.str "bare"], D.tup [.str "and", .int (v : Int), .int (1 + (v : Int))]])) pe (.lst ((yB v).map dN)) = m6 at st5 qe ⊢
  -- the text
  simp only [gN, List.getElem?_cons_zero, List.getElem?_cons_succ, List.set_cons_succ, List.set_cons_zero, List.append_nil, sIf, tOf, eBin, eCall, eM, eLst, eB, aCons, aNil, eVar, eK, isStr, dRef]
  refine ⟨trivial, (by show 1 ≤ _; omega), fun pf hpf => ?_⟩
  have nef : pe ≠ pf := ne_new qe hpf
  simp only [dMul, mup_same, dRef]
  rw [ev1]
  refine ⟨⟨by omega, by omega, by rw [Int.toNat_natCast]; simp only [List.length_cons, List.length_nil]; omega⟩, fun pg hpg => ?_⟩
  have nfg : pf ≠ pg := ne_new mup_same hpg
  have neg : pe ≠ pg := ne_new (show mup m6 pf (.lst [.str "yes"]) pe = _ by rw [mup_ne nef]; exact qe) hpg
  rw [Int.toNat_natCast, rep_flat]
  refine ⟨(by show 1 ≤ _; omega), fun ph hph => ?_⟩
  have ngh : pg ≠ ph := ne_new mup_same hph
  have neh : pe ≠ ph := ne_new (by rw [mup_ne neg, mup_ne nef]; exact qe) hph
  simp only [dAdd, dRef]
  rw [mup_ne ngh, mup_same, mup_same]
  simp only
  have eS : List.replicate (v + 1) (D.str "yes") ++ [D.str "bare"] = (("yes" : Str) :: (List.replicate v ("yes" : Str) ++ [("bare" : Str)])).map D.str := by
    simp [List.replicate_succ]
  rw [eS]
  refine ⟨by rw [List.length_replicate, List.length_singleton]; omega, fun pk hpk => ?_⟩
  have nek : pe ≠ pk := ne_new (by rw [mup_ne neh, mup_ne neg, mup_ne nef]; exact qe) hpk
  simp only [mJoin, strQ, d1Q, seqOf, mup_same, Option.bind_some]
  rw [strsOf_map, optQ_some']
  have la : (" and " : Str).length = 5 ∧ ("yes" : Str).length = 3 ∧ ("bare" : Str).length = 4 := by decide +kernel
  have sum1 : ((("yes" : Str) :: (List.replicate v ("yes" : Str) ++ [("bare" : Str)])).map (·.length)).sum = 3 + (v * 3 + 4) := by
    simp [List.map_append, List.map_replicate, List.sum_append, la.2.1, la.2.2, sumRep]
  have hc : codes (Txt.join " and " (("yes" : Str) :: (List.replicate v ("yes" : Str) ++ [("bare" : Str)]))) = txt (.jn "and" (ch yesP v) bareP) := by
    have ca : codes " and " = 32 :: (codes "and" ++ [32]) := by decide +kernel
    rw [join_codes]
    show _ = txt (ch yesP v) ++ 32 :: (codes "and" ++ 32 :: codes "bare")
    rw [ch_txt, List.map_append, List.flatten_append, List.map_replicate, ca]
    show _ = (codes "yes" ++ (List.replicate v (32 :: (codes "and" ++ [32]) ++ codes "yes")).flatten) ++ _
    simp
  refine ⟨by rw [sum1, la.1]; simp only [List.length_cons, List.length_append, List.length_replicate, List.length_nil]; omega, ?_⟩
  have cho := ch_ok (z := z) (p := yesP) yes_v (by decide) v
  have j1 : ("and" : Str) ∈ joinL ∧ bindJ "and" = 2 := by decide +kernel
  have j2 : leastL "and" = 2 := by unfold leastL; rw [j1.2]; rfl
  have hlen : (Txt.join " and " (("yes" : Str) :: (List.replicate v ("yes" : Str) ++ [("bare" : Str)]))).length ≤ 900000 := by
    rw [codes_len, hc]
    show (txt (ch yesP v) ++ 32 :: (codes "and" ++ 32 :: codes "bare")).length ≤ _
    rw [ch_txt]
    have l1 : (codes " and " ++ txt yesP).length = 8 := by decide +kernel
    have l2 : (txt yesP).length = 3 ∧ (codes "and").length = 3 ∧ (codes "bare").length = 4 := by decide +kernel
    have l3 : ((List.replicate v (codes " and " ++ txt yesP)).flatten).length = v * 8 := by
      rw [List.length_flatten, List.map_replicate, sumRep, l1]
    simp only [List.length_append, List.length_cons, l3, l2]
    omega
  refine x_read (p := .jn "and" (ch yesP v) bareP) hz ⟨j1.1, by rw [j2]; exact cho.2.1, by rw [j1.2]; decide, cho.1, .al (by decide +kernel)⟩ (by show max (depP (ch yesP v)) 0 ≤ 30; rw [cho.2.2]; decide) hc hlen ?_
  rw [show (post (erase (.jn "and" (ch yesP v) bareP)) []).1 = yB v by rw [bare_post]; rfl]
  simp only [bTuple, d1Q, tupQ]
  rw [mup_ne nek, mup_ne neh, mup_ne neg, mup_ne nef, qe]
  have okL : NsOk (yB v) := by
    intro ks hks
    rcases List.mem_append.mp hks with hks | hks
    · exact yL_ok v ks hks
    · rcases List.mem_cons.mp hks with rfl | hks
      · exact kok1 (by decide +kernel)
      · have := List.mem_singleton.mp hks; subst this
        exact kok_jn j1.1
  simp only
  rw [dNe_ns okL okL, decide_eq_true rfl]
  simp only [bK]
  refine ⟨fun z => (by cases z), fun _ => ?_⟩
  simp only [sNil, sRet, eCall, aCons, aNil, eVar, List.getElem?_cons_zero, List.getElem?_cons_succ, List.set_cons_succ, List.set_cons_zero, List.append_nil]
  refine ⟨z, rfl, hz, ?_⟩
  refine ⟨m0, ?_, h⟩
  exact st5.sub.trans ((sub_p hpf).trans ((sub_p hpg).trans ((sub_p hph).trans (sub_p hpk))))
end L2.EV
set_option maxHeartbeats 1000000
/-! K01L45: the law: thirty words not and brackets; thirty-one sayings. -/
namespace L2.EV
open PySem PySem.Spec PyProof.Rows
def lwR2 : ES :=
  (sSeq (sAsg (gN 10) (eBin dAdd (eLst (aCons (eTup (aCons (eK (.str "yes")) aNil)) (aCons (eTup (aCons (eK (.str "not")) (aCons (eK (.int 0)) aNil))) aNil))) (eLc (iR1 (aCons (eK (.int 30)) aNil)) (gN 11) tYesD (eTup (aCons (eK (.str "and")) (aCons (eBin dAdd (eK (.int 1)) (eVar 11)) (aCons (eK (.int 1)) aNil)))) [11])))
  (sSeq (sIf (tOf (eBin dNe (eCall g_read_saying [] (aCons (eVar 2) (aCons (eM isStr mJoin (eK (.str " and ")) (aCons (eBin dMul (eLst (aCons (eK (.str "not yes")) aNil)) (eK (.int 31))) aNil)) aNil))) (eB bTuple (aCons (eVar 10) aNil))))
   (sRet (eK (.bl false)))
   sNil)
  lwR3))
def zL (k : Nat) : List (List Key) := [.inr "yes"] :: [.inr "not", .inl 0] :: (List.range k).map fun (i : Nat) => [.inr "and", .inl (1 + (i : Nat)), .inl 1]
theorem zL_len (k : Nat) : (zL k).length = k + 2 := by simp [zL]
theorem zL_ok (k : Nat) : NsOk (zL k) := fun ks h => by
  rcases List.mem_cons.mp h with rfl | h
  · exact kok1 (by decide +kernel)
  · rcases List.mem_cons.mp h with rfl | h
    · exact kok_not (i := 0)
    · obtain ⟨i, _, rfl⟩ := List.mem_map.mp h
      have := kok_jn (w := "and") (i := 1 + i) (j := 1) (by decide +kernel)
      exact this
theorem nots_post (k : Nat) : post (erase (ch (nts 1) k)) [] = (zL k, k + 1) := by
  induction k with
  | zero =>
    show post (erase (nts 1)) [] = _
    rw [nts_post]; rfl
  | succ k ih =>
    show putN (post (erase (nts 1)) (post (erase (ch (nts 1) k)) []).1).1 [.inr "and", .inl ((post (erase (ch (nts 1) k)) []).2 : Nat), .inl ((post (erase (nts 1)) (post (erase (ch (nts 1) k)) []).1).2 : Nat)] = _
    rw [ih]
    have ny : ("yes" : Str) ≠ "not" := by decide +kernel
    have hy : post (erase (nts 1)) (zL k) = (zL k, 1) := by
      have h0 : putN (zL k) [.inr "yes"] = (zL k, 0) := by
        unfold putN
        rw [if_pos (by simp [inN, zL])]
        refine Prod.ext rfl ?_
        simp [idxOf, zL, List.findIdx_cons]
      show putN (putN (zL k) [.inr "yes"]).1 [.inr "not", .inl ((putN (zL k) [.inr "yes"]).2 : Nat)] = _
      rw [h0]
      unfold putN
      rw [if_pos (by simp [inN, zL])]
      refine Prod.ext rfl ?_
      simp [idxOf, zL, List.findIdx_cons]
    simp only
    rw [hy]
    have nin : ¬ inN [.inr "and", .inl ((k + 1 : Nat) : Int), .inl ((1 : Nat) : Int)] (zL k) = true := by
      rw [inN_iff]
      intro h
      rcases List.mem_cons.mp h with h | h
      · exact absurd (congrArg List.length h) (by simp)
      · rcases List.mem_cons.mp h with h | h
        · exact absurd (congrArg List.length h) (by simp)
        · obtain ⟨i, hi, e⟩ := List.mem_map.mp h
          have := Sum.inl.inj (List.cons.inj (List.cons.inj e).2).1
          have := List.mem_range.mp hi
          omega
    unfold putN
    rw [if_neg nin]
    simp only [zL_len]
    refine Prod.ext ?_ rfl
    have : ((k + 1 : Nat) : Int) = 1 + ((k : Nat) : Int) := by omega
    simp [zL, List.range_succ, this]
theorem lw_R2 {m0 m : Mem} {dr : Addr} {z : Str} {Q : QD} {X : XD} {o0 o1 o4 o5 o6 o7 o8 o9 o10 o11 o12 o13 o14 o15 o16 : Option D} (st : RSt m0 m dr) (hz : zNm z) (h : Q (.bl true) m0) :
    lwR2 [o0, o1, some (.str z), some (.ref dr), o4, o5, o6, o7, o8, o9, o10, o11, o12, o13, o14, o15, o16] m (zsS Q X) := by
  have h9 : 9000 ≤ sizeLine := by rw [sizeLine_eq]; decide
  rw [lwR2, sSeq]
  simp only [sAsg, eBin, eLst, eTup, aCons, aNil, eVar, eK, List.getElem?_cons_zero, List.getElem?_cons_succ, List.set_cons_succ, List.set_cons_zero, List.append_nil, dRef, eLc, iR1, gN]
  refine ⟨(by show 1 ≤ _; omega), (by show 2 ≤ _; omega), (by show 2 ≤ _; omega), fun pa hpa => ⟨⟨by decide, by decide⟩, fun pb hpb => ?_⟩⟩
  have nab : pa ≠ pb := ne_new mup_same hpb
  have st2 := (st.new (o := .lst [.tup [.str "yes"], .tup [.str "not", .int 0]]) hpa)
  have qa : mup m pa (.lst [.tup [.str "yes"], .tup [.str "not", .int 0]]) pa = some (.lst [.tup [.str "yes"], .tup [.str "not", .int 0]]) := mup_same
  generalize mup m pa (.lst [.tup [.str "yes"], .tup [.str "not", .int 0]]) = m2 at st2 qa hpb ⊢
  rw [show (30 : Int).toNat = 30 from rfl]
  refine lc_exM (f := fun d => match d with
    | .int i => .tup [.str "and", .int (1 + i), .int 1]
    | _ => .non) (fun acc => trivial) (fun x hx acc kk hk => ?_) (by rw [List.length_map, List.length_range]; omega) ?_
  · obtain ⟨i, _, rfl⟩ := List.mem_map.mp hx
    simp only [wipeD, List.getElem?_cons_zero, List.getElem?_cons_succ, List.set_cons_succ, List.set_cons_zero, List.append_nil, eTup, eBin, aCons, aNil, eVar, eK, dAdd]
    exact ⟨(by show 3 ≤ _; omega), hk⟩
  rw [List.map_map]
  have st3 := st2.new (o := .lst ((List.range 30).map ((fun d => match d with
    | .int i => D.tup [.str "and", .int (1 + i), .int 1]
    | _ => .non) ∘ fun (i : Nat) => D.int (i : Nat)))) hpb
  simp only [dAdd, dRef]
  rw [mup_ne nab, qa, mup_same]
  simp only
  have eL : [D.tup [.str "yes"], .tup [.str "not", .int 0]] ++ (List.range 30).map ((fun d => match d with
    | .int i => D.tup [.str "and", .int (1 + i), .int 1]
    | _ => .non) ∘ fun (i : Nat) => D.int (i : Nat)) = (zL 30).map dN := by
    simp [zL, dN, dK, Function.comp_def]
  rw [eL]
  refine ⟨by simp only [List.length_cons, List.length_nil, List.length_map, List.length_range]; omega, fun pe hpe => ?_⟩
  have st5 := st3.new (o := .lst ((zL 30).map dN)) hpe
  have qe : mup (mup m2 pb (.lst ((List.range 30).map ((fun d => match d with
    | .int i => D.tup [.str "and", .int (1 + i), .int 1]
    | _ => .non) ∘ fun (i : Nat) => D.int (i : Nat))))) pe (.lst ((zL 30).map dN)) pe = some (.lst ((zL 30).map dN)) := mup_same
  generalize mup (mup m2 pb (.lst ((List.range 30).map ((fun d => match d with
    | .int i => D.tup [.str "and", .int (1 + i), .int 1]
    | _ => .non) ∘ fun (i : Nat) => D.int (i : Nat))))) pe (.lst ((zL 30).map dN)) = m6 at st5 qe ⊢
  rw [sSeq]
  simp only [sIf, tOf, eBin, eCall, eM, eLst, eB, aCons, aNil, eVar, eK, List.getElem?_cons_zero, List.getElem?_cons_succ, List.set_cons_succ, List.set_cons_zero, List.append_nil, isStr, dRef]
  refine ⟨trivial, (by show 1 ≤ _; omega), fun pf hpf => ?_⟩
  have nef : pe ≠ pf := ne_new qe hpf
  simp only [dMul, mup_same, dRef]
  refine ⟨⟨by omega, by omega, (by show 1 * 31 ≤ _; omega)⟩, fun pg hpg => ?_⟩
  have neg : pe ≠ pg := ne_new (show mup m6 pf (.lst [.str "not yes"]) pe = _ by rw [mup_ne nef]; exact qe) hpg
  rw [show (31 : Int).toNat = 31 from rfl, rep_flat]
  have eS : List.replicate 31 (D.str "not yes") = (("not yes" : Str) :: List.replicate 30 ("not yes" : Str)).map D.str := rfl
  rw [eS]
  simp only [mJoin, strQ, d1Q, seqOf, mup_same, Option.bind_some]
  rw [strsOf_map, optQ_some']
  have la : (" and " : Str).length = 5 ∧ ("not yes" : Str).length = 7 := by decide +kernel
  have hc : codes (Txt.join " and " (("not yes" : Str) :: List.replicate 30 ("not yes" : Str))) = txt (ch (nts 1) 30) := by
    have cn : codes "not yes" = txt (nts 1) := by decide +kernel
    rw [join_codes, ch_txt, List.map_replicate, cn]
  have hlen : (Txt.join " and " (("not yes" : Str) :: List.replicate 30 ("not yes" : Str))).length ≤ 900000 := by
    rw [codes_len, hc, ch_txt]
    have l1 : (codes " and " ++ txt (nts 1)).length = 12 ∧ (txt (nts 1)).length = 7 := by decide +kernel
    rw [List.length_append, List.length_flatten, List.map_replicate, sumRep, l1.1, l1.2]; omega
  have cho := ch_ok (z := z) (p := nts 1) (nts_ok 1).1 (by decide) 30
  refine ⟨by rw [List.map_cons, List.map_replicate, List.sum_cons, sumRep, List.length_cons, List.length_replicate, la.1, la.2]; omega, ?_⟩
  refine x_read (p := ch (nts 1) 30) hz cho.1 (by rw [cho.2.2]; decide) hc hlen ?_
  rw [nots_post]
  simp only [bTuple, d1Q, tupQ]
  rw [mup_ne neg, mup_ne nef, qe]
  simp only
  rw [dNe_ns (zL_ok 30) (zL_ok 30), decide_eq_true rfl]
  simp only [bK]
  refine ⟨fun z => (by cases z), fun _ => ?_⟩
  simp only [sNil]
  exact lw_R3 ((st5.new hpf).new hpg) hz h
def lwR1 : ES :=
  (sSeq (sAsg (gN 8) (eCall g__law_pick [] (aCons (eVar 3) (aCons (eK (.int 31)) aNil))))
  (sSeq (sAsg (gN 9) (eBin dAdd (eBin dAdd (eBin dAdd (eBin dMul (eK (.str "(")) (eVar 8)) (eBin dMul (eK (.str "not ")) (eBin dSub (eK (.int 30)) (eVar 8)))) (eK (.str "yes"))) (eBin dMul (eK (.str ")")) (eVar 8))))
  (sSeq (sAsg (gN 10) (eLst (aCons (eTup (aCons (eK (.str "yes")) aNil)) aNil)))
  (sSeq (sForS (iR1 (aCons (eBin dSub (eK (.int 30)) (eVar 8)) aNil)) (gN 11)
   (sExpr (eM isLst mAppend (eVar 10) (aCons (eTup (aCons (eK (.str "not")) (aCons (eVar 11) aNil))) aNil))))
  (sSeq (sIf (tOf (eBin dNe (eCall g_read_saying [] (aCons (eVar 2) (aCons (eVar 9) aNil))) (eB bTuple (aCons (eVar 10) aNil))))
   (sRet (eK (.bl false)))
   sNil)
  lwR2)))))
theorem lw_R1 {m0 m : Mem} {dr : Addr} {z : Str} {Q : QD} {X : XD} {o0 o1 o4 o5 o6 o7 o8 o9 o10 o11 o12 o13 o14 o15 o16 : Option D} (st : RSt m0 m dr) (hz : zNm z) (h : Q (.bl true) m0) :
    lwR1 [o0, o1, some (.str z), some (.ref dr), o4, o5, o6, o7, o8, o9, o10, o11, o12, o13, o14, o15, o16] m (zsS Q X) := by
  have h9 : 9000 ≤ sizeLine := by rw [sizeLine_eq]; decide
  have l0 : ("(" : Str).length = 1 ∧ ("not " : Str).length = 4 ∧ ("yes" : Str).length = 3 ∧ (")" : Str).length = 1 := by decide +kernel
  have c0 : codes "(" = [40] ∧ codes ")" = [41] ∧ (codes "not ").length = 4 ∧ (codes "yes").length = 3 := by decide +kernel
  rw [lwR1, sSeq]
  simp only [sAsg, eBin, eCall, aCons, aNil, eVar, eK, List.getElem?_cons_zero, List.getElem?_cons_succ, List.set_cons_succ, List.set_cons_zero, List.append_nil]
  refine x_pick (n := 31) st.hd (by decide) (by decide) fun v m1 hv hd1 s1 => ?_
  have st1 := st.drs s1 hd1
  have ev : (30 : Int) - (v : Int) = ((30 - v : Nat) : Int) := by omega
  simp only [sSeq, sAsg, eBin, eVar, eK, gN, List.getElem?_cons_zero, List.getElem?_cons_succ, List.set_cons_succ, List.set_cons_zero, List.append_nil, dI, dMul, dSub]
  rw [ev]
  simp only [dAdd]
  have e1 : (Txt.mul "(" ((v : Nat) : Int)).length = v := by rw [codes_len, mul_codes, c0.1]; simp
  have e2 : (Txt.mul "not " ((30 - v : Nat) : Int)).length = (30 - v) * 4 := by
    rw [codes_len, mul_codes, List.length_flatten, List.map_replicate, sumRep, c0.2.2.1]
  have e3 : (Txt.mul ")" ((v : Nat) : Int)).length = v := by rw [codes_len, mul_codes, c0.2.1]; simp
  refine ⟨mulS (by omega) (by omega), mulS (by omega) (by omega), by rw [e1, e2]; omega, by rw [PySem.Str.length_append, e1, e2]; omega, mulS (by omega) (by omega), by rw [PySem.Str.length_append, PySem.Str.length_append, e1, e2, e3]; omega, ?_⟩
  have hlen : (Txt.mul "(" ((v : Nat) : Int) ++ Txt.mul "not " ((30 - v : Nat) : Int) ++ "yes" ++ Txt.mul ")" ((v : Nat) : Int)).length ≤ 900000 := by
    simp only [PySem.Str.length_append]; rw [e1, e2, e3]; omega
  have hc : codes (Txt.mul "(" ((v : Nat) : Int) ++ Txt.mul "not " ((30 - v : Nat) : Int) ++ "yes" ++ Txt.mul ")" ((v : Nat) : Int)) = txt (brs v (nts (30 - v))) := by
    have f1 : ∀ (x k : Nat), (List.replicate k [x]).flatten = List.replicate k x := fun x k => by
      induction k with
      | zero => rfl
      | succ k ih => rw [List.replicate_succ, List.flatten_cons, ih, List.replicate_succ]; rfl
    rw [codes_app, codes_app, codes_app, mul_codes, mul_codes, mul_codes, brs_txt, nts_txt, c0.1, c0.2.1, f1, f1]
    simp
  generalize Txt.mul "(" ((v : Nat) : Int) ++ Txt.mul "not " ((30 - v : Nat) : Int) ++ "yes" ++ Txt.mul ")" ((v : Nat) : Int) = tx at hlen hc ⊢
  simp only [sForS, iR1, eLst, eTup, eBin, aCons, aNil, eVar, eK, List.getElem?_cons_zero, List.getElem?_cons_succ, List.set_cons_succ, List.set_cons_zero, List.append_nil, dRef, dSub]
  refine ⟨(by show 1 ≤ _; omega), (by show 1 ≤ _; omega), fun pn hpn => ?_⟩
  rw [ev, Int.toNat_natCast, List.range_eq_range']
  refine ⟨⟨by omega, by omega⟩, ?_⟩
  refine nt_loop (N := 30 - v) (by omega) (fun o11 => ?_) (30 - v) 0 _ (by omega)
  have st2 := st1.new (o := lstN (ntsL (30 - v))) hpn
  simp only [sIf, tOf, eBin, eCall, eB, aCons, aNil, eVar, eK, List.getElem?_cons_zero, List.getElem?_cons_succ, List.set_cons_succ, List.set_cons_zero, List.append_nil]
  refine x_read (p := brs v (nts (30 - v))) hz (brs_ok (nts_ok _).1 v) (by rw [brs_dep, nts_dep]; omega) hc hlen ?_
  rw [brs_erase, nts_post]
  simp only [bTuple, d1Q, tupQ, mup_same, lstN]
  rw [dNe_ns (ntsL_ok _) (ntsL_ok _), decide_eq_true rfl]
  simp only [bK]
  refine ⟨fun z => (by cases z), fun _ => ?_⟩
  simp only [sNil]
  exact lw_R2 st2 hz h
/-! ### the law -/
theorem ScrOk.sub {m m' : Mem} {d : D} (h : ScrOk m d) (s : Sub m m') : ScrOk m' d := by
  obtain ⟨zs, h1, h2, h3⟩ := h
  refine ⟨zs, ?_, h2, h3⟩
  rcases lis_cases h1 with rfl | ⟨a, rfl, e⟩
  · rfl
  · simp only [lisOf, s a _ e]
theorem l_law {ds : List D} {m : Mem} {Q : QD} {X : XD} (h : g_law ds m Q X) : r_law (startD N_law.length ds) m (zsS Q X) := by
  obtain ⟨d, rfl, hs, h⟩ := h
  show r_law [some d, none, none, none, none, none, none, none, none, none, none, none, none, none, none, none, none] m (zsS Q X)
  rw [r_law, sSeq]
  simp only [sAsg, eCall, aCons, aNil, eVar, eK, List.getElem?_cons_zero, List.getElem?_cons_succ, List.set_cons_succ, List.set_cons_zero, List.append_nil]
  refine ⟨d, 0, rfl, hs, by omega, fun src a b c hsrc => ?_⟩
  have S1 : Sub m (mup m src (srcM a b c)) := sub_p hsrc
  have ha1 : SrcAt (mup m src (srcM a b c)) src := ⟨a, b, c, mup_same⟩
  generalize mup m src (srcM a b c) = m1 at S1 ha1 ⊢
  simp only [gN, List.getElem?_cons_zero, List.getElem?_cons_succ, List.set_cons_succ, List.set_cons_zero, List.append_nil]
  rw [sSeq, sAsg]
  refine x_of (a := src) (n := 8) (xs := (["ab", "a", "bd", "abc", "f", "ace", "ef", "cdf"] : List Str).map D.str) (i := 1) ha1 rfl (by decide) (by decide) (fun _ _ => rfl) rfl fun v x m2 hv hx S2 ha2 => ?_
  have hz0 : ∀ w ∈ (["ab", "a", "bd", "abc", "f", "ace", "ef", "cdf"] : List Str), namesOk (.str w) = true := by decide +kernel
  obtain ⟨z, hzm, rfl⟩ := List.mem_map.mp (List.mem_of_getElem? hx)
  have hz : zNm z := hz0 z hzm
  have S12 : Sub m m2 := fun b o e => S2 b o (S1 b o e) (ne_new e hsrc)
  simp only [gN, List.getElem?_cons_zero, List.getElem?_cons_succ, List.set_cons_succ, List.set_cons_zero, List.append_nil]
  rw [sSeq]
  simp only [sAsg, eCall, aCons, aNil, eVar, eK, List.getElem?_cons_zero, List.getElem?_cons_succ, List.set_cons_succ, List.set_cons_zero, List.append_nil]
  refine ⟨d, 1, rfl, hs.sub S12, by omega, fun dr a b c hdr => ?_⟩
  have nsd : dr ≠ src := ne_new' (ha2.choose_spec.choose_spec.choose_spec) hdr
  have fdr := S12.none hdr
  have S3 : Sub m (mup m2 dr (srcM a b c)) := S12.trans (sub_p hdr)
  have ha3 : SrcAt (mup m2 dr (srcM a b c)) src := (ha2.fresh hdr).1
  have hd3 : SrcAt (mup m2 dr (srcM a b c)) dr := ⟨a, b, c, mup_same⟩
  generalize mup m2 dr (srcM a b c) = m3 at S3 ha3 hd3 ⊢
  simp only [gN, List.getElem?_cons_zero, List.getElem?_cons_succ, List.set_cons_succ, List.set_cons_zero, List.append_nil]
  rw [sSeq]
  simp only [sAsg, eLst, eCall, aCons, aNil, eVar, eK, List.getElem?_cons_zero, List.getElem?_cons_succ, List.set_cons_succ, List.set_cons_zero, List.append_nil, dRef]
  refine ⟨src, z, 7, rfl, ha3, hz, by decide, by decide, fun p1 sh1 a b c hp1 hsh1 hsz1 => ?_⟩
  have n1s : p1 ≠ src := ne_new' (ha3.choose_spec.choose_spec.choose_spec) hp1
  have n1d : p1 ≠ dr := ne_new' (hd3.choose_spec.choose_spec.choose_spec) hp1
  have S4 : Sub m (mup (mup m3 src (srcM a b c)) p1 (lstN sh1)) := fun b' o e => by
    rw [mup_ne (ne_new (S3 b' o e) hp1), mup_ne (ne_new e hsrc)]; exact S3 b' o e
  have hd4 : SrcAt (mup (mup m3 src (srcM a b c)) p1 (lstN sh1)) dr := by
    obtain ⟨a', b', c', q⟩ := hd3
    exact ⟨a', b', c', by rw [mup_ne n1d.symm, mup_ne nsd]; exact q⟩
  have q1 : mup (mup m3 src (srcM a b c)) p1 (lstN sh1) p1 = some (lstN sh1) := mup_same
  generalize mup (mup m3 src (srcM a b c)) p1 (lstN sh1) = m4 at S4 hd4 q1 ⊢
  refine ⟨dr, z, 4, rfl, hd4, hz, by decide, by decide, fun p2 sh2 a b c hp2 hsh2 hsz2 => ⟨(by show 2 ≤ sizeLine; rw [sizeLine_eq]; omega), fun ps hps => ?_⟩⟩
  have n12 : p1 ≠ p2 := ne_new q1 hp2
  have n2d : p2 ≠ dr := ne_new' (hd4.choose_spec.choose_spec.choose_spec) hp2
  have S5 : Sub m (mup (mup m4 dr (srcM a b c)) p2 (lstN sh2)) := fun b' o e => by
    rw [mup_ne (ne_new (S4 b' o e) hp2), mup_ne (ne_new e fdr)]; exact S4 b' o e
  have hd5 : SrcAt (mup (mup m4 dr (srcM a b c)) p2 (lstN sh2)) dr := ⟨a, b, c, by rw [mup_ne n2d.symm, mup_same]⟩
  have q15 : mup (mup m4 dr (srcM a b c)) p2 (lstN sh2) p1 = some (lstN sh1) := by rw [mup_ne n12, mup_ne n1d]; exact q1
  have q25 : mup (mup m4 dr (srcM a b c)) p2 (lstN sh2) p2 = some (lstN sh2) := mup_same
  generalize mup (mup m4 dr (srcM a b c)) p2 (lstN sh2) = m5 at S5 hd5 q15 q25 hps ⊢
  have n1p : p1 ≠ ps := ne_new q15 hps
  have n2p : p2 ≠ ps := ne_new q25 hps
  have ndp : dr ≠ ps := ne_new (hd5.choose_spec.choose_spec.choose_spec) hps
  simp only [sSeq, sAsg, eLst, aNil, gN, List.getElem?_cons_zero, List.getElem?_cons_succ, List.set_cons_succ, List.set_cons_zero, List.append_nil, dRef, List.length_nil]
  refine ⟨Nat.zero_le _, fun pt hpt => ?_⟩
  have npt : ps ≠ pt := ne_new mup_same hpt
  have q16 : mup m5 ps (.lst [.ref p1, .ref p2]) p1 = some (lstN sh1) := by rw [mup_ne n1p]; exact q15
  have q26 : mup m5 ps (.lst [.ref p1, .ref p2]) p2 = some (lstN sh2) := by rw [mup_ne n2p]; exact q25
  have hd6 := (hd5.fresh (o := .lst [.ref p1, .ref p2]) hps).1
  have st : LwSt m (mup (mup m5 ps (.lst [.ref p1, .ref p2])) pt (.lst [])) dr ps p1 p2 pt sh1 sh2 [] := by
    have n1t : p1 ≠ pt := ne_new q16 hpt
    have n2t : p2 ≠ pt := ne_new q26 hpt
    refine ⟨S5.trans ((sub_p hps).trans (sub_p hpt)), (hd6.fresh hpt).1, by rw [mup_ne npt, mup_same], by rw [mup_ne n1t]; exact q16, by rw [mup_ne n2t]; exact q26, mup_same, fdr, (S5.trans (sub_p hps)).none hpt, ndp, n1d.symm, n2d.symm, ?_, npt.symm, n1t.symm, n2t.symm⟩
    exact ne_new (hd6.choose_spec.choose_spec.choose_spec) hpt
  generalize mup (mup m5 ps (.lst [.ref p1, .ref p2])) pt (.lst []) = m6 at st ⊢
  obtain ⟨g1, g2, g3, g4, g5, g6, g7⟩ := st.n
  simp only [sForS, iSeq, eVar, List.getElem?_cons_zero, List.getElem?_cons_succ, List.set_cons_succ, List.set_cons_zero, List.append_nil, iterQ, st.hs]
  refine ⟨st.hs, ?_⟩
  simp only [gN, List.getElem?_cons_zero, List.getElem?_cons_succ, List.set_cons_succ, List.set_cons_zero, List.append_nil]
  show lwB1 _ _ _
  refine lw_step st hz (fun m' s => s.h1) g2 g6 (fun m' ts' s => s.h1) hsh1 hsz1 (by simp) fun t1 k1 m7 o10 o12 o13 o16 ok1 c1 st7 => ?_
  refine shM_of ⟨st7.hs, ?_⟩
  simp only [gN, List.getElem?_cons_zero, List.getElem?_cons_succ, List.set_cons_succ, List.set_cons_zero, List.append_nil]
  refine lw_step st7 hz (fun m' s => s.h2) g3 g7 (fun m' ts' s => s.h2) hsh2 hsz2 (by simp) fun t2 k2 m8 o10 o12 o13 o16 ok2 c2 st8 => ?_
  refine shM_of ⟨st8.hs, ?_⟩
  have hsh2' : shN z 7 sh2 := ⟨hsh2.1, hsh2.2.1, hsh2.2.2⟩
  -- the words that join
  simp only [sForS, iSeq, eLst, aCons, aNil, eK, dRef]
  refine ⟨(by show 4 ≤ sizeLine; rw [sizeLine_eq]; omega), fun pw hpw => ?_⟩
  have st9 := st8.new (o := .lst [.str "adds", .str "or", .str "and", .str "apart"]) hpw
  have qw : mup m8 pw (.lst [.str "adds", .str "or", .str "and", .str "apart"]) pw = some (.lst [.str "adds", .str "or", .str "and", .str "apart"]) := mup_same
  generalize mup m8 pw (.lst [.str "adds", .str "or", .str "and", .str "apart"]) = m9 at st9 qw ⊢
  simp only [iterQ, qw]
  have loop : ∀ (ws : List Str), (∀ w ∈ ws, w ∈ joinL) → ∀ (o7 o10 o14 o15 : Option D), forS (fun m' => m' pw = some (.lst [.str "adds", .str "or", .str "and", .str "apart"])) (gN 7) lwB2 { (zsS Q X) with nx := fun e1 m1 => lwR1 e1 m1 (zsS Q X) } (ws.map D.str) [some d, some (.ref src), some (.str z), some (.ref dr), some (.ref ps), some (.ref pt), some (.ref p2), o7, none, none, o10, none, o12, o13, o14, o15, o16] m9 := by
    intro ws
    induction ws with
    | nil => exact fun _ o7 o10 o14 o15 => ⟨qw, lw_R1 ⟨st9.sub, st9.hd, st9.fd⟩ hz h⟩
    | cons w ws ih =>
      intro hw o7 o10 o14 o15
      refine ⟨qw, ?_⟩
      simp only [gN, List.getElem?_cons_zero, List.getElem?_cons_succ, List.set_cons_succ, List.set_cons_zero, List.append_nil]
      refine lw_word st9 hz (hw w (List.mem_cons_self ..)) hsh1 hsz1 hsh2' hsz2 ok1 c1 ok2 c2 fun m' o10 o14 o15 s => ?_
      exact ⟨m9, s, ih (fun x hx => hw x (List.mem_cons_of_mem _ hx)) _ _ _ _⟩
  exact loop ["adds", "or", "and", "apart"] (by decide +kernel) _ _ _ _
end L2.EV
set_option maxHeartbeats 1000000
/-! K01L46: deep with no room. -/
namespace L2.EV
open PySem PySem.Spec PyProof.Rows
theorem l_deep0 {g : SPEC} {ds : List D} {m : Mem} {Q : QD} {X : XD} (h : g_deepN 0 ds m Q X) : r_deep g (startD N_deep.length ds) m (zsOf Q X) := by
  obtain ⟨d, n, rfl, hn, ho, h⟩ := h
  show r_deep g [some d, some (.int n), none] m (zsOf Q X)
  have e : n = 0 := by omega
  subst e
  simp only [r_deep, sSeq, sIf, tOr, tNot, tTru, eCall, aCons, aNil, eVar, List.getElem?_cons_zero, List.getElem?_cons_succ, List.append_nil]
  refine ⟨d, rfl, ho, ?_⟩
  simp only [truK]
  refine ⟨fun hl => ?_, fun hl => ?_⟩
  · exact ⟨fun _ => h m (Sub.refl m), fun z => by cases z⟩
  · simp only [tOf, eBin, eVar, eK, List.getElem?_cons_zero, List.getElem?_cons_succ, dEq_int, bK]
    exact ⟨fun _ => h m (Sub.refl m), fun h0 => by simp at h0⟩
end L2.EV
set_option maxHeartbeats 0
namespace L2.EV
open PySem PySem.Spec PyProof.Rows
def d_is_integer : He.DefD := ⟨("is_integer", none), "is_integer", "is_integer", defArgs (top 10), defBody (top 10), defScope (top 10), [], []⟩
def d_is_listed : He.DefD := ⟨("is_listed", none), "is_listed", "is_listed", defArgs (top 11), defBody (top 11), defScope (top 11), [], []⟩
def d_deep : He.DefD := ⟨("deep", none), "deep", "deep", defArgs (top 12), defBody (top 12), defScope (top 12), [.int 30], []⟩
def d_is_ascending : He.DefD := ⟨("is_ascending", none), "is_ascending", "is_ascending", defArgs (top 13), defBody (top 13), defScope (top 13), [], []⟩
def d_is_names : He.DefD := ⟨("is_names", none), "is_names", "is_names", defArgs (top 14), defBody (top 14), defScope (top 14), [], []⟩
def d_check_names : He.DefD := ⟨("check_names", none), "check_names", "check_names", defArgs (top 15), defBody (top 15), defScope (top 15), [], []⟩
def d_is_term : He.DefD := ⟨("is_term", none), "is_term", "is_term", defArgs (top 16), defBody (top 16), defScope (top 16), [], []⟩
def d_is_node : He.DefD := ⟨("is_node", none), "is_node", "is_node", defArgs (top 20), defBody (top 20), defScope (top 20), [], []⟩
def d_sheet_over : He.DefD := ⟨("sheet_over", none), "sheet_over", "sheet_over", defArgs (top 21), defBody (top 21), defScope (top 21), [], []⟩
def d_checked_sheet : He.DefD := ⟨("checked_sheet", none), "checked_sheet", "checked_sheet", defArgs (top 22), defBody (top 22), defScope (top 22), [], []⟩
def d_referred : He.DefD := ⟨("referred", none), "referred", "referred", defArgs (top 23), defBody (top 23), defScope (top 23), [], []⟩
def d_scanned : He.DefD := ⟨("scanned", none), "scanned", "scanned", defArgs (top 26), defBody (top 26), defScope (top 26), [], []⟩
def d_read_by : He.DefD := ⟨("read_by", none), "read_by", "read_by", defArgs (top 27), defBody (top 27), defScope (top 27), [], []⟩
def d_Lister___init__ : He.DefD := ⟨("Lister", some "__init__"), "__init__", "Lister.__init__", defArgs (inClass (top 28) 0), defBody (inClass (top 28) 0), defScope (inClass (top 28) 0), [], []⟩
def d_Lister_put : He.DefD := ⟨("Lister", some "put"), "put", "Lister.put", defArgs (inClass (top 28) 1), defBody (inClass (top 28) 1), defScope (inClass (top 28) 1), [], []⟩
def d_tidied : He.DefD := ⟨("tidied", none), "tidied", "tidied", defArgs (top 29), defBody (top 29), defScope (top 29), [], []⟩
def d_Level___init__ : He.DefD := ⟨("Level", some "__init__"), "__init__", "Level.__init__", defArgs (inClass (top 34) 0), defBody (inClass (top 34) 0), defScope (inClass (top 34) 0), [], []⟩
def d_SayingReader___init__ : He.DefD := ⟨("SayingReader", some "__init__"), "__init__", "SayingReader.__init__", defArgs (inClass (top 35) 0), defBody (inClass (top 35) 0), defScope (inClass (top 35) 0), [], []⟩
def d_SayingReader_take_word : He.DefD := ⟨("SayingReader", some "take_word"), "take_word", "SayingReader.take_word", defArgs (inClass (top 35) 1), defBody (inClass (top 35) 1), defScope (inClass (top 35) 1), [], []⟩
def d_SayingReader_take_operand : He.DefD := ⟨("SayingReader", some "take_operand"), "take_operand", "SayingReader.take_operand", defArgs (inClass (top 35) 2), defBody (inClass (top 35) 2), defScope (inClass (top 35) 2), [], []⟩
def d_SayingReader_finish : He.DefD := ⟨("SayingReader", some "finish"), "finish", "SayingReader.finish", defArgs (inClass (top 35) 3), defBody (inClass (top 35) 3), defScope (inClass (top 35) 3), [], []⟩
def d_SayingReader_reduce : He.DefD := ⟨("SayingReader", some "reduce"), "reduce", "SayingReader.reduce", defArgs (inClass (top 35) 4), defBody (inClass (top 35) 4), defScope (inClass (top 35) 4), [], []⟩
def d_SayingReader_take_join : He.DefD := ⟨("SayingReader", some "take_join"), "take_join", "SayingReader.take_join", defArgs (inClass (top 35) 5), defBody (inClass (top 35) 5), defScope (inClass (top 35) 5), [], []⟩
def d_SayingReader_may_end : He.DefD := ⟨("SayingReader", some "may_end"), "may_end", "SayingReader.may_end", defArgs (inClass (top 35) 6), defBody (inClass (top 35) 6), defScope (inClass (top 35) 6), [], []⟩
def d_SayingReader_whole : He.DefD := ⟨("SayingReader", some "whole"), "whole", "SayingReader.whole", defArgs (inClass (top 35) 7), defBody (inClass (top 35) 7), defScope (inClass (top 35) 7), [], []⟩
def d_read_over : He.DefD := ⟨("read_over", none), "read_over", "read_over", defArgs (top 36), defBody (top 36), defScope (top 36), [], []⟩
def d_read_saying : He.DefD := ⟨("read_saying", none), "read_saying", "read_saying", defArgs (top 37), defBody (top 37), defScope (top 37), [], []⟩
def d_renumbered : He.DefD := ⟨("renumbered", none), "renumbered", "renumbered", defArgs (top 38), defBody (top 38), defScope (top 38), [], []⟩
def d_tidy_over : He.DefD := ⟨("tidy_over", none), "tidy_over", "tidy_over", defArgs (top 39), defBody (top 39), defScope (top 39), [], []⟩
def d_tidy_saying : He.DefD := ⟨("tidy_saying", none), "tidy_saying", "tidy_saying", defArgs (top 40), defBody (top 40), defScope (top 40), [], []⟩
def d__law_source : He.DefD := ⟨("_law_source", none), "_law_source", "_law_source", defArgs (top 42), defBody (top 42), defScope (top 42), [], []⟩
def d__law_pick : He.DefD := ⟨("_law_pick", none), "_law_pick", "_law_pick", defArgs (top 43), defBody (top 43), defScope (top 43), [], []⟩
def d__law_exact : He.DefD := ⟨("_law_exact", none), "_law_exact", "_law_exact", defArgs (top 44), defBody (top 44), defScope (top 44), [], []⟩
def d__law_loose : He.DefD := ⟨("_law_loose", none), "_law_loose", "_law_loose", defArgs (top 45), defBody (top 45), defScope (top 45), [], []⟩
def d__law_shape : He.DefD := ⟨("_law_shape", none), "_law_shape", "_law_shape", defArgs (top 46), defBody (top 46), defScope (top 46), [], []⟩
def d__law_sheet : He.DefD := ⟨("_law_sheet", none), "_law_sheet", "_law_sheet", defArgs (top 47), defBody (top 47), defScope (top 47), [], []⟩
def d__law_bound : He.DefD := ⟨("_law_bound", none), "_law_bound", "_law_bound", defArgs (top 48), defBody (top 48), defScope (top 48), [], []⟩
def d__law_written : He.DefD := ⟨("_law_written", none), "_law_written", "_law_written", defArgs (top 49), defBody (top 49), defScope (top 49), [], []⟩
def d__law_tidy : He.DefD := ⟨("_law_tidy", none), "_law_tidy", "_law_tidy", defArgs (top 50), defBody (top 50), defScope (top 50), [], []⟩
def d__law_listed : He.DefD := ⟨("_law_listed", none), "_law_listed", "_law_listed", defArgs (top 51), defBody (top 51), defScope (top 51), [], []⟩
def d__law_width : He.DefD := ⟨("_law_width", none), "_law_width", "_law_width", defArgs (top 52), defBody (top 52), defScope (top 52), [], []⟩
def d__law_short : He.DefD := ⟨("_law_short", none), "_law_short", "_law_short", defArgs (top 53), defBody (top 53), defScope (top 53), [], []⟩
def d__law_refused : He.DefD := ⟨("_law_refused", none), "_law_refused", "_law_refused", defArgs (top 54), defBody (top 54), defScope (top 54), [], []⟩
def d_law : He.DefD := ⟨("law", none), "law", "law", defArgs (top 55), defBody (top 55), defScope (top 55), [], []⟩
def fnl : List He.DefD := [d_is_integer, d_is_listed, d_deep, d_is_ascending, d_is_names, d_check_names, d_is_term, d_is_node, d_sheet_over, d_checked_sheet, d_referred, d_scanned, d_read_by, d_Lister___init__, d_Lister_put, d_tidied, d_Level___init__, d_SayingReader___init__, d_SayingReader_take_word, d_SayingReader_take_operand, d_SayingReader_finish, d_SayingReader_reduce, d_SayingReader_take_join, d_SayingReader_may_end, d_SayingReader_whole, d_read_over, d_read_saying, d_renumbered, d_tidy_over, d_tidy_saying, d__law_source, d__law_pick, d__law_exact, d__law_loose, d__law_shape, d__law_sheet, d__law_bound, d__law_written, d__law_tidy, d__law_listed, d__law_width, d__law_short, d__law_refused, d_law]
def fal : List He.Fa := ([.glo "is_integer", .keep "is_integer", .glo "is_listed", .keep "is_listed", .glo "deep", .keep "deep", .glo "is_ascending", .keep "is_ascending", .glo "is_names", .keep "is_names", .glo "check_names", .keep "check_names", .glo "is_term", .keep "is_term", .glo "is_node", .keep "is_node"] : List He.Fa) ++ ([.glo "sheet_over", .keep "sheet_over", .glo "checked_sheet", .keep "checked_sheet", .glo "referred", .keep "referred", .glo "scanned", .keep "scanned", .glo "read_by", .keep "read_by", .glo "tidied", .keep "tidied", .glo "read_over", .keep "read_over", .glo "read_saying", .keep "read_saying"] : List He.Fa) ++ ([.glo "renumbered", .keep "renumbered", .glo "tidy_over", .keep "tidy_over", .glo "tidy_saying", .keep "tidy_saying", .glo "_law_source", .keep "_law_source", .glo "_law_pick", .keep "_law_pick", .glo "_law_exact", .keep "_law_exact", .glo "_law_loose", .keep "_law_loose", .glo "_law_shape", .keep "_law_shape"] : List He.Fa) ++ ([.glo "_law_sheet", .keep "_law_sheet", .glo "_law_bound", .keep "_law_bound", .glo "_law_written", .keep "_law_written", .glo "_law_tidy", .keep "_law_tidy", .glo "_law_listed", .keep "_law_listed", .glo "_law_width", .keep "_law_width", .glo "_law_short", .keep "_law_short", .glo "_law_refused", .keep "_law_refused"] : List He.Fa) ++ ([.glo "law", .keep "law", .glo "HelpError", .glo "WrongThing", .glo "WrongItem", .glo "BadNames", .glo "BadSheet", .glo "BadText", .glo "Lister", .cls "Lister", .mkr "Lister", .glo "Level", .cls "Level", .mkr "Level", .glo "SayingReader", .cls "SayingReader"] : List He.Fa) ++ ([.mkr "SayingReader", .meth "Lister" "put", .meth "SayingReader" "take_word", .meth "SayingReader" "take_operand", .meth "SayingReader" "finish", .meth "SayingReader" "reduce", .meth "SayingReader" "take_join", .meth "SayingReader" "may_end", .meth "SayingReader" "whole", .free "abs", .free "all", .free "bool", .free "enumerate", .free "int", .free "isinstance", .free "len"] : List He.Fa) ++ ([.free "list", .free "range", .free "str", .free "sum", .free "tuple", .free "zip"] : List He.Fa)
abbrev R : PySem.W.OpenRow := PySem.W.OpenLaw.row PySem.Challenge.rw_anyhelper_k01_whole_sayings_read
def tabs : List He.Tab := [(fun K => He.ga K "FORMS", ["yes", "no", "bare", "same", "holds", "link", "way", "tied", "one", "row", "not", "and", "or", "apart", "adds"]), (fun K => He.ga K "BINDING", ["adds", "or", "and", "apart", "not"])]
def x_BadNames : ExD := ⟨"BadNames", "WrongThing", "WrongThing.__init__", defArgs (inClass (top 2) 0), defBody (inClass (top 2) 0), defScope (inClass (top 2) 0), "thing"⟩
def x_BadSheet : ExD := ⟨"BadSheet", "WrongItem", "WrongItem.__init__", defArgs (inClass (top 3) 0), defBody (inClass (top 3) 0), defScope (inClass (top 3) 0), "number"⟩
def x_BadText : ExD := ⟨"BadText", "BadText", "BadText.__init__", defArgs (inClass (top 6) 0), defBody (inClass (top 6) 0), defScope (inClass (top 6) 0), "at"⟩
def xl : List ExD := [x_BadNames, x_BadSheet, x_BadText]
def exl (K : PySem.W.Frag) : List Bool := [gvB K "LETTERS" c_LETTERS, gvB K "NIL" c_NIL, gvB K "MOST_NODES" c_MOST_NODES, gvB K "FORMS" c_FORMS, gvB K "MOST_OPEN" c_MOST_OPEN, gvB K "BINDING" c_BINDING, gvB K "RELATIONS" c_RELATIONS, gvB K "ALONE" c_ALONE, tabB K "FORMS" (TT "FORMS"), tabB K "BINDING" (TT "BINDING"), fldB K fldl, subB K subl, subl.all (fun p => xcB K (He.ga K p.1)), exB R.prog K x_BadNames, exB R.prog K x_BadSheet, exB R.prog K x_BadText, subl.all (fun p => decide (PySem.W.findIn K (.ref (He.ga K p.1)) "at" = some none)), subl.all (fun p => decide (PySem.W.findIn K (.ref (He.ga K p.1)) "number" = some none)), subl.all (fun p => decide (PySem.W.findIn K (.ref (He.ga K p.1)) "thing" = some none))]
def exb (K : PySem.W.Frag) : Bool := (exl K).all id
abbrev hk : PySem.W.Hook := hookE 5 fal fnl tabs xl exb
def ob (s : PySem.W.SharedT) : AlE := obsEG 5 fal fnl tabs xl exb (HandSHeadRun.getT s)
theorem ob_eq (s : PySem.W.SharedT) : ob s = hk.obs s.abs := obsEG_eq (HandSHeadRun.getT_eq s)
def loose : List Str := ((["HelpError", "WrongThing", "WrongItem", "BadNames", "BadSheet", "BadText", "LETTERS", "NIL", "is_integer", "is_listed", "deep", "is_ascending", "is_names", "check_names", "is_term", "MOST_NODES"] : List Str) ++ (["FORMS", "is_node", "sheet_over", "checked_sheet", "referred", "MOST_OPEN", "scanned", "read_by", "Lister", "tidied", "BINDING", "RELATIONS", "ALONE", "Level", "SayingReader", "read_over"] : List Str) ++ (["read_saying", "renumbered", "tidy_over", "tidy_saying", "_law_source", "_law_pick", "_law_exact", "_law_loose", "_law_shape", "_law_sheet", "_law_bound", "_law_written", "_law_tidy", "_law_listed", "_law_width", "_law_short"] : List Str) ++ (["_law_refused"] : List Str) : List Str)
def lawIx : Nat := 55
theorem exk {K : PySem.W.Frag} (h : exb K = true) (j : Nat) {b : Bool} (e : (exl K)[j]? = some b) : b = true := List.all_eq_true.mp h b (List.mem_of_getElem? e)
theorem ss_in {C Y : Str} {b : Bool} (h : SS C Y = some b) : (C, Y, b) ∈ subl := stOf_in h
theorem t_BadNames : ∃ msg, ExText x_BadNames "thing" msg ∧ ∀ w, ExS.MsgOk R.prog w msg "thing" (fun _ => True) := by
  refine ⟨_, ⟨⟨_, _, _, _, _, _, _, _, _, _, _, _, rfl, rfl, rfl, rfl, rfl, by decide +kernel, rfl, rfl, rfl, rfl⟩, fun _ _ _ _ _ _ _ _ _ _ us hl => match us, hl with | [_, _], _ => rfl, fun _ => rfl, by decide, by decide⟩, fun w => ExS.msg_const⟩
theorem t_BadSheet : ∃ msg, ExText x_BadSheet "number" msg ∧ ∀ w, ExS.MsgOk R.prog w msg "number" ExS.intOk := by
  refine ⟨_, ⟨⟨_, _, _, _, _, _, _, _, _, _, _, _, rfl, rfl, rfl, rfl, rfl, by decide +kernel, rfl, rfl, rfl, rfl⟩, fun _ _ _ _ _ _ _ _ _ _ us hl => match us, hl with | [_, _], _ => rfl, fun _ => rfl, by decide, by decide⟩, fun w => ExS.msg_int (by decide) (by decide)⟩
theorem t_BadText : ∃ msg, ExText x_BadText "at" msg ∧ ∀ w, ExS.MsgOk R.prog w msg "at" ExS.intOk := by
  refine ⟨_, ⟨⟨_, _, _, _, _, _, _, _, _, _, _, _, rfl, rfl, rfl, rfl, rfl, by decide +kernel, rfl, rfl, rfl, rfl⟩, fun _ _ _ _ _ _ _ _ _ _ us hl => match us, hl with | [_, _], _ => rfl, fun _ => rfl, by decide, by decide⟩, fun w => ExS.msg_int (by decide) (by decide)⟩
theorem md_of {K : PySem.W.Frag} {w : World} {mg : Str → Option Value} {h : Heap} (X : K.In h) (G : h.Ns mainGlobals mg) (c : obsE fal fnl tabs xl exb K = valE fnl tabs xl w) : Md R.prog K w mg := by
  have c1 : He.SaysD fal fnl K := congrArg (fun z : AlE => z.1.1) c
  have c2 : (tabs.map fun t => He.dicW K (t.1 K)) = tabs.map fun t => some (He.keysIn w.params t.2) := congrArg (fun z : AlE => z.1.2) c
  have c3 : xl.map (fnE K) = xl.map ExD.val := congrArg (fun z : AlE => z.2.1) c
  have c4 : exb K = true := congrArg (fun z : AlE => z.2.2) c
  exact {
    n_abs := He.free_ok X G (c1.fact 89 (f := .free "abs") rfl),
    n_all := He.free_ok X G (c1.fact 90 (f := .free "all") rfl),
    n_bool := He.free_ok X G (c1.fact 91 (f := .free "bool") rfl),
    n_enumerate := He.free_ok X G (c1.fact 92 (f := .free "enumerate") rfl),
    n_int := He.free_ok X G (c1.fact 93 (f := .free "int") rfl),
    n_isinstance := He.free_ok X G (c1.fact 94 (f := .free "isinstance") rfl),
    n_len := He.free_ok X G (c1.fact 95 (f := .free "len") rfl),
    n_list := He.free_ok X G (c1.fact 96 (f := .free "list") rfl),
    n_range := He.free_ok X G (c1.fact 97 (f := .free "range") rfl),
    n_str := He.free_ok X G (c1.fact 98 (f := .free "str") rfl),
    n_sum := He.free_ok X G (c1.fact 99 (f := .free "sum") rfl),
    n_tuple := He.free_ok X G (c1.fact 100 (f := .free "tuple") rfl),
    n_zip := He.free_ok X G (c1.fact 101 (f := .free "zip") rfl),
    g_LETTERS := gvB_ok X G (exk c4 0 rfl),
    g_NIL := gvB_ok X G (exk c4 1 rfl),
    g_MOST_NODES := gvB_ok X G (exk c4 2 rfl),
    g_FORMS := gvB_ok X G (exk c4 3 rfl),
    g_MOST_OPEN := gvB_ok X G (exk c4 4 rfl),
    g_BINDING := gvB_ok X G (exk c4 5 rfl),
    g_RELATIONS := gvB_ok X G (exk c4 6 rfl),
    g_ALONE := gvB_ok X G (exk c4 7 rfl),
    e_BadNames := by
      obtain ⟨msg, T, MO⟩ := t_BadNames
      exact ⟨⟨_, _, _, msg, _, exTxt_of (d := x_BadNames) (by have := congrArg (fun l => l[0]?) c3; simpa [xl] using this) (exk c4 13 rfl) T (by decide +kernel), MO w, okAny_ok⟩, He.glo_ok X G (c1.fact 69 (f := .glo "BadNames") rfl)⟩,
    e_BadSheet := by
      obtain ⟨msg, T, MO⟩ := t_BadSheet
      exact ⟨⟨_, _, _, msg, _, exTxt_of (d := x_BadSheet) (by have := congrArg (fun l => l[1]?) c3; simpa [xl] using this) (exk c4 14 rfl) T (by decide +kernel), MO w, okInt_ok⟩, He.glo_ok X G (c1.fact 70 (f := .glo "BadSheet") rfl)⟩,
    e_BadText := by
      obtain ⟨msg, T, MO⟩ := t_BadText
      exact ⟨⟨_, _, _, msg, _, exTxt_of (d := x_BadText) (by have := congrArg (fun l => l[2]?) c3; simpa [xl] using this) (exk c4 15 rfl) T (by decide +kernel), MO w, okInt_ok⟩, He.glo_ok X G (c1.fact 71 (f := .glo "BadText") rfl)⟩,
    sub := subOk_of (l := subl) (fun C Y b e => ss_in e) (exk c4 11 rfl) (fun p hp => List.all_eq_true.mp (exk c4 12 rfl) p hp),
    x_HelpError := He.glo_ok X G (c1.fact 66 (f := .glo "HelpError") rfl),
    x_BadSheet := He.glo_ok X G (c1.fact 70 (f := .glo "BadSheet") rfl),
    x_BadNames := He.glo_ok X G (c1.fact 69 (f := .glo "BadNames") rfl),
    x_BadText := He.glo_ok X G (c1.fact 71 (f := .glo "BadText") rfl),
    nof_at := fun C b e => of_decide_eq_true (List.all_eq_true.mp (exk c4 16 rfl) _ (ss_in e)),
    nof_number := fun C b e => of_decide_eq_true (List.all_eq_true.mp (exk c4 17 rfl) _ (ss_in e)),
    nof_thing := fun C b e => of_decide_eq_true (List.all_eq_true.mp (exk c4 18 rfl) _ (ss_in e)),
    f_referred := He.glo_ok X G (c1.fact 20 (f := .glo "referred") rfl),
    f_renumbered := He.glo_ok X G (c1.fact 32 (f := .glo "renumbered") rfl),
    tab := fun Y hK hw => by
      subst hK hw
      refine tabOk_of (names := tabl.map (·.1)) (fun x hx => ?_) (fun x hx => ?_) (fun x hx => ?_)
      · exact tbOf_in hx
      · simp only [tabl, List.map_cons, List.map_nil, List.mem_cons, List.not_mem_nil, or_false] at hx
        rcases hx with rfl | rfl
        · exact He.dicW_ok (by have := congrArg (fun l => l[0]?) c2; simpa [tabs] using this)
        · exact He.dicW_ok (by have := congrArg (fun l => l[1]?) c2; simpa [tabs] using this)
      · simp only [tabl, List.map_cons, List.map_nil, List.mem_cons, List.not_mem_nil, or_false] at hx
        rcases hx with rfl | rfl
        · exact exk c4 8 rfl
        · exact exk c4 9 rfl,
    fld := fun Y hK => by
      subst hK
      refine fldOk_of (l := fldl) (fun C f hf => ftOf_in hf) (exk c4 10 rfl) }
end L2.EV
set_option maxHeartbeats 0
namespace L2.EV
open PySem PySem.Spec PyProof.Rows
structure HX (K : PySem.W.Frag) (w : World) (mg : Str → Option Value) : Prop where
  M : Md R.prog K w mg
  c : He.SaysD fal fnl K
  ex : ∃ h : Heap, K.In h ∧ h.Ns mainGlobals mg
theorem HX.glo {K : PySem.W.Frag} {w : World} {mg : Str → Option Value} (H : HX K w mg) {x : Str} (i : Nat) (e : fal[i]? = some (.glo x) := by rfl) : mg x = some (.ref (He.ga K x)) := by
  obtain ⟨h, X, G⟩ := H.ex
  exact He.glo_ok X G (H.c.fact i e)
section
variable {K : PySem.W.Frag} {w : World} {mg : Str → Option Value} {base : Heap}
theorem a__law_listed (H : HX K w mg) : FnA R.prog w K mg base 2 2 g__law_listed [] (He.ga K "_law_listed") := by
  obtain ⟨fd, F⟩ := H.c.def_ 39 (d := d__law_listed) rfl
  exact fnS_N (k := 1) F S__law_listed (fun _ _ _ _ _ _ us hl => match us, hl with | [_, _], _ => rfl) (by intro ds m Q X h; unfold g__law_listed at h; repeat (first | (obtain ⟨e, _⟩ := h; rw [e]; rfl) | (obtain ⟨_, h⟩ := h))) (fun cdv A outer s H2 E hr => w__law_listed H.M  hr) (fun ds m Q X h => l__law_listed h)
theorem a__law_pick (H : HX K w mg) : FnA R.prog w K mg base 2 2 g__law_pick [] (He.ga K "_law_pick") := by
  obtain ⟨fd, F⟩ := H.c.def_ 31 (d := d__law_pick) rfl
  exact fnS_N (k := 1) F S__law_pick (fun _ _ _ _ _ _ us hl => match us, hl with | [_, _], _ => rfl) (by intro ds m Q X h; unfold g__law_pick at h; repeat (first | (obtain ⟨e, _⟩ := h; rw [e]; rfl) | (obtain ⟨_, h⟩ := h))) (fun cdv A outer s H2 E hr => w__law_pick H.M  hr) (fun ds m Q X h => l__law_pick h)
theorem a_is_ascending (H : HX K w mg) : FnA R.prog w K mg base 2 1 g_is_ascending [] (He.ga K "is_ascending") := by
  obtain ⟨fd, F⟩ := H.c.def_ 3 (d := d_is_ascending) rfl
  exact fnA_N (k := 1) F S_is_ascending (fun _ _ _ _ _ _ us hl => match us, hl with | [_], _ => rfl) (by intro ds m Q X h; unfold g_is_ascending at h; repeat (first | (obtain ⟨e, _⟩ := h; rw [e]; rfl) | (obtain ⟨_, h⟩ := h))) (fun cdv A outer s H2 E hr => w_is_ascending H.M  hr) (fun ds m Q X h => l_is_ascending h)
theorem a_is_names (H : HX K w mg) : FnA R.prog w K mg base 3 1 g_is_names [] (He.ga K "is_names") := by
  obtain ⟨fd, F⟩ := H.c.def_ 4 (d := d_is_names) rfl
  exact fnA_N (k := 2) F S_is_names (fun _ _ _ _ _ _ us hl => match us, hl with | [_], _ => rfl) (by intro ds m Q X h; unfold g_is_names at h; repeat (first | (obtain ⟨e, _⟩ := h; rw [e]; rfl) | (obtain ⟨_, h⟩ := h))) (fun cdv A outer s H2 E hr => w_is_names H.M ⟨(a_is_ascending H).mono (by decide)|>.mono (Nat.le_refl _), H.glo 6, He.keep_ok (H.c.fact 7 (f := .keep "is_ascending") rfl)⟩ hr) (fun ds m Q X h => l_is_names h)
theorem a_check_names (H : HX K w mg) : FnA R.prog w K mg base 4 1 g_check_names [] (He.ga K "check_names") := by
  obtain ⟨fd, F⟩ := H.c.def_ 5 (d := d_check_names) rfl
  exact fnA_N (k := 3) F S_check_names (fun _ _ _ _ _ _ us hl => match us, hl with | [_], _ => rfl) (by intro ds m Q X h; unfold g_check_names at h; repeat (first | (obtain ⟨e, _⟩ := h; rw [e]; rfl) | (obtain ⟨_, h⟩ := h))) (fun cdv A outer s H2 E hr => w_check_names H.M ⟨(a_is_names H).mono (by decide)|>.mono (Nat.le_refl _), H.glo 8, He.keep_ok (H.c.fact 9 (f := .keep "is_names") rfl)⟩ hr) (fun ds m Q X h => l_check_names h)
theorem a_is_listed (H : HX K w mg) : FnA R.prog w K mg base 2 1 g_is_listed [] (He.ga K "is_listed") := by
  obtain ⟨fd, F⟩ := H.c.def_ 1 (d := d_is_listed) rfl
  exact fnA_N (k := 1) F S_is_listed (fun _ _ _ _ _ _ us hl => match us, hl with | [_], _ => rfl) (by intro ds m Q X h; unfold g_is_listed at h; repeat (first | (obtain ⟨e, _⟩ := h; rw [e]; rfl) | (obtain ⟨_, h⟩ := h))) (fun cdv A outer s H2 E hr => w_is_listed H.M  hr) (fun ds m Q X h => l_is_listed h)
theorem a_deepN (H : HX K w mg) : ∀ n : Nat, FnA R.prog w K mg base (n + 4) 2 (g_deepN n) [] (He.ga K "deep") := by
  obtain ⟨fd, F⟩ := H.c.def_ 2 (d := d_deep) rfl
  have hb : ∃ ds, Vals ([] : List V) ds ∧ Binds K fd P_deep ds := F.binds1 2 1 (by simp [d_deep, He.DefD.dvs]) rfl fun T kV doc pm an cdv ct us its h1 h2 => match us, its, h1, h2 with | [_, _], [_], _, _ => ⟨_, rfl, rfl⟩
  obtain ⟨ds, hv, hb⟩ := hb
  have bot : FnA R.prog w K mg base 3 2 (fun _ _ _ _ => False) [] (He.ga K "deep") :=
    fnA_of (k := 2) (r := fun _ _ _ => False) F S_deep hb hv (fun _ => .nil) (fun ds m Q X h => h.elim) (fun cdv A outer s H E hr => ⟨fun pins s σ H D I ⟨e, m, Z, _, _, h, _⟩ => h.elim⟩) (fun ds m Q X h => h.elim)
  intro n
  induction n with
  | zero =>
    exact fnA_of (k := 3) F S_deep hb hv (fun _ => .nil) (fun ds m Q X h => by obtain ⟨_, _, e, _⟩ := h; rw [e]; rfl) (fun cdv A outer s H2 E hr => w_deep H.M ⟨bot, H.glo 4, He.keep_ok (H.c.fact 5 (f := .keep "deep") rfl)⟩ ⟨(a_is_listed H).mono (by decide), H.glo 2, He.keep_ok (H.c.fact 3 (f := .keep "is_listed") rfl)⟩ hr) (fun ds m Q X h => l_deep0 h)
  | succ n ih =>
    exact fnA_of (k := n + 4) F S_deep hb hv (fun _ => .nil) (fun ds m Q X h => by obtain ⟨_, _, e, _⟩ := h; rw [e]; rfl) (fun cdv A outer s H2 E hr => w_deep (k := n + 3) H.M ⟨ih, H.glo 4, He.keep_ok (H.c.fact 5 (f := .keep "deep") rfl)⟩ ⟨(a_is_listed H).mono (by omega), H.glo 2, He.keep_ok (H.c.fact 3 (f := .keep "is_listed") rfl)⟩ hr) (fun ds m Q X h => l_deep h)
theorem a_deep_d (H : HX K w mg) : FnA R.prog w K mg base 35 2 g_deep [.int 30] (He.ga K "deep") := by
  obtain ⟨fd, F⟩ := H.c.def_ 2 (d := d_deep) rfl
  have hb : ∃ ds, Vals [V.int 30] ds ∧ Binds K fd P_deep ds := F.binds1 1 0 (by simp [d_deep, He.DefD.dvs]) rfl fun T kV doc pm an cdv ct us its h1 h2 => match us, its, h1, h2 with | [_], [_], _, _ => ⟨_, rfl, rfl⟩
  obtain ⟨ds, hv, hb⟩ := hb
  exact fnA_of (k := 33 + 1) F S_deep hb hv (fun _ => .cons (by simp only [DV]) .nil) (fun ds m Q X h => by obtain ⟨_, _, e, _⟩ := h; rw [e]; rfl) (fun cdv A outer s H2 E hr => w_deep (k := 33) H.M ⟨(a_deepN H 29).mono (by decide), H.glo 4, He.keep_ok (H.c.fact 5 (f := .keep "deep") rfl)⟩ ⟨(a_is_listed H).mono (by decide), H.glo 2, He.keep_ok (H.c.fact 3 (f := .keep "is_listed") rfl)⟩ hr) (fun ds m Q X h => l_deep h)
theorem a_is_integer (H : HX K w mg) : FnA R.prog w K mg base 2 3 g_is_integer [] (He.ga K "is_integer") := by
  obtain ⟨fd, F⟩ := H.c.def_ 0 (d := d_is_integer) rfl
  exact fnA_N (k := 1) F S_is_integer (fun _ _ _ _ _ _ us hl => match us, hl with | [_, _, _], _ => rfl) (by intro ds m Q X h; unfold g_is_integer at h; repeat (first | (obtain ⟨e, _⟩ := h; rw [e]; rfl) | (obtain ⟨_, h⟩ := h))) (fun cdv A outer s H2 E hr => w_is_integer H.M  hr) (fun ds m Q X h => l_is_integer h)
theorem a_is_term (H : HX K w mg) : FnA R.prog w K mg base 2 2 g_is_term [] (He.ga K "is_term") := by
  obtain ⟨fd, F⟩ := H.c.def_ 6 (d := d_is_term) rfl
  exact fnA_N (k := 1) F S_is_term (fun _ _ _ _ _ _ us hl => match us, hl with | [_, _], _ => rfl) (by intro ds m Q X h; unfold g_is_term at h; repeat (first | (obtain ⟨e, _⟩ := h; rw [e]; rfl) | (obtain ⟨_, h⟩ := h))) (fun cdv A outer s H2 E hr => w_is_term H.M  hr) (fun ds m Q X h => l_is_term h)
theorem a_is_node (H : HX K w mg) : FnA R.prog w K mg base 3 3 g_is_node [] (He.ga K "is_node") := by
  obtain ⟨fd, F⟩ := H.c.def_ 7 (d := d_is_node) rfl
  exact fnA_N (k := 2) F S_is_node (fun _ _ _ _ _ _ us hl => match us, hl with | [_, _, _], _ => rfl) (by intro ds m Q X h; unfold g_is_node at h; repeat (first | (obtain ⟨e, _⟩ := h; rw [e]; rfl) | (obtain ⟨_, h⟩ := h))) (fun cdv A outer s H2 E hr => w_is_node H.M ⟨(a_is_integer H).mono (by decide)|>.mono (Nat.le_refl _), H.glo 0, He.keep_ok (H.c.fact 1 (f := .keep "is_integer") rfl)⟩ ⟨(a_is_listed H).mono (by decide)|>.mono (Nat.le_refl _), H.glo 2, He.keep_ok (H.c.fact 3 (f := .keep "is_listed") rfl)⟩ ⟨(a_is_term H).mono (by decide)|>.mono (Nat.le_refl _), H.glo 12, He.keep_ok (H.c.fact 13 (f := .keep "is_term") rfl)⟩ hr) (fun ds m Q X h => l_is_node h)
theorem a_sheet_over (H : HX K w mg) : FnA R.prog w K mg base 36 2 g_sheet_over [] (He.ga K "sheet_over") := by
  obtain ⟨fd, F⟩ := H.c.def_ 8 (d := d_sheet_over) rfl
  exact fnA_N (k := 35) F S_sheet_over (fun _ _ _ _ _ _ us hl => match us, hl with | [_, _], _ => rfl) (by intro ds m Q X h; unfold g_sheet_over at h; repeat (first | (obtain ⟨e, _⟩ := h; rw [e]; rfl) | (obtain ⟨_, h⟩ := h))) (fun cdv A outer s H2 E hr => w_sheet_over H.M ⟨(a_deep_d H).mono (by decide)|>.mono (Nat.le_refl _), H.glo 4, He.keep_ok (H.c.fact 5 (f := .keep "deep") rfl)⟩ ⟨(a_is_listed H).mono (by decide)|>.mono (Nat.le_refl _), H.glo 2, He.keep_ok (H.c.fact 3 (f := .keep "is_listed") rfl)⟩ ⟨(a_is_node H).mono (by decide)|>.mono (Nat.le_refl _), H.glo 14, He.keep_ok (H.c.fact 15 (f := .keep "is_node") rfl)⟩ hr) (fun ds m Q X h => l_sheet_over h)
theorem a_checked_sheet (H : HX K w mg) : FnA R.prog w K mg base 37 2 g_checked_sheet [] (He.ga K "checked_sheet") := by
  obtain ⟨fd, F⟩ := H.c.def_ 9 (d := d_checked_sheet) rfl
  exact fnA_N (k := 36) F S_checked_sheet (fun _ _ _ _ _ _ us hl => match us, hl with | [_, _], _ => rfl) (by intro ds m Q X h; unfold g_checked_sheet at h; repeat (first | (obtain ⟨e, _⟩ := h; rw [e]; rfl) | (obtain ⟨_, h⟩ := h))) (fun cdv A outer s H2 E hr => w_checked_sheet H.M ⟨(a_check_names H).mono (by decide)|>.mono (Nat.le_refl _), H.glo 10, He.keep_ok (H.c.fact 11 (f := .keep "check_names") rfl)⟩ ⟨(a_sheet_over H).mono (by decide)|>.mono (Nat.le_refl _), H.glo 16, He.keep_ok (H.c.fact 17 (f := .keep "sheet_over") rfl)⟩ hr) (fun ds m Q X h => l_checked_sheet h)
theorem a_Level___init__ (H : HX K w mg) : FnA R.prog w K mg base 2 1 g_Level___init__ [] (He.ma K (He.ga K "Level") "__init__") := by
  obtain ⟨fd, F⟩ := H.c.def_ 16 (d := d_Level___init__) rfl
  exact fnA_N (k := 1) F S_Level___init__ (fun _ _ _ _ _ _ us hl => match us, hl with | [_], _ => rfl) (by intro ds m Q X h; unfold g_Level___init__ at h; repeat (first | (obtain ⟨e, _⟩ := h; rw [e]; rfl) | (obtain ⟨_, h⟩ := h))) (fun cdv A outer s H2 E hr => w_Level___init__ H.M  hr) (fun ds m Q X h => l_Level___init__ h)
theorem a_Lister___init__ (H : HX K w mg) : FnA R.prog w K mg base 2 1 g_Lister___init__ [] (He.ma K (He.ga K "Lister") "__init__") := by
  obtain ⟨fd, F⟩ := H.c.def_ 13 (d := d_Lister___init__) rfl
  exact fnA_N (k := 1) F S_Lister___init__ (fun _ _ _ _ _ _ us hl => match us, hl with | [_], _ => rfl) (by intro ds m Q X h; unfold g_Lister___init__ at h; repeat (first | (obtain ⟨e, _⟩ := h; rw [e]; rfl) | (obtain ⟨_, h⟩ := h))) (fun cdv A outer s H2 E hr => w_Lister___init__ H.M  hr) (fun ds m Q X h => l_Lister___init__ h)
theorem a_SayingReader___init__ (H : HX K w mg) : FnA R.prog w K mg base 4 2 g_SayingReader___init__ [] (He.ma K (He.ga K "SayingReader") "__init__") := by
  obtain ⟨fd, F⟩ := H.c.def_ 17 (d := d_SayingReader___init__) rfl
  exact fnA_N (k := 3) F S_SayingReader___init__ (fun _ _ _ _ _ _ us hl => match us, hl with | [_, _], _ => rfl) (by intro ds m Q X h; unfold g_SayingReader___init__ at h; repeat (first | (obtain ⟨e, _⟩ := h; rw [e]; rfl) | (obtain ⟨_, h⟩ := h))) (fun cdv A outer s H2 E hr => w_SayingReader___init__ H.M ⟨(a_Level___init__ H).mono (by decide)|>.mono (Nat.le_refl _), H.glo 75, He.mkr_ok (H.c.fact 77 (f := .mkr "Level") rfl)⟩ ⟨(a_Lister___init__ H).mono (by decide)|>.mono (Nat.le_refl _), H.glo 72, He.mkr_ok (H.c.fact 74 (f := .mkr "Lister") rfl)⟩ hr) (fun ds m Q X h => l_SayingReader___init__ h)
theorem a_SayingReader_may_end (H : HX K w mg) : FnA R.prog w K mg base 2 1 g_SayingReader_may_end [] (He.ma K (He.ga K "SayingReader") "may_end") := by
  obtain ⟨fd, F⟩ := H.c.def_ 23 (d := d_SayingReader_may_end) rfl
  exact fnA_N (k := 1) F S_SayingReader_may_end (fun _ _ _ _ _ _ us hl => match us, hl with | [_], _ => rfl) (by intro ds m Q X h; unfold g_SayingReader_may_end at h; repeat (first | (obtain ⟨e, _⟩ := h; rw [e]; rfl) | (obtain ⟨_, h⟩ := h))) (fun cdv A outer s H2 E hr => w_SayingReader_may_end H.M  hr) (fun ds m Q X h => l_SayingReader_may_end h)
theorem a_Lister_put (H : HX K w mg) : FnA R.prog w K mg base 2 2 g_Lister_put [] (He.ma K (He.ga K "Lister") "put") := by
  obtain ⟨fd, F⟩ := H.c.def_ 14 (d := d_Lister_put) rfl
  exact fnA_N (k := 1) F S_Lister_put (fun _ _ _ _ _ _ us hl => match us, hl with | [_, _], _ => rfl) (by intro ds m Q X h; unfold g_Lister_put at h; repeat (first | (obtain ⟨e, _⟩ := h; rw [e]; rfl) | (obtain ⟨_, h⟩ := h))) (fun cdv A outer s H2 E hr => w_Lister_put H.M  hr) (fun ds m Q X h => l_Lister_put h)
theorem a_SayingReader_finish (H : HX K w mg) : FnA R.prog w K mg base 3 2 g_SayingReader_finish [] (He.ma K (He.ga K "SayingReader") "finish") := by
  obtain ⟨fd, F⟩ := H.c.def_ 20 (d := d_SayingReader_finish) rfl
  exact fnA_N (k := 2) F S_SayingReader_finish (fun _ _ _ _ _ _ us hl => match us, hl with | [_, _], _ => rfl) (by intro ds m Q X h; unfold g_SayingReader_finish at h; repeat (first | (obtain ⟨e, _⟩ := h; rw [e]; rfl) | (obtain ⟨_, h⟩ := h))) (fun cdv A outer s H2 E hr => w_SayingReader_finish H.M ⟨(a_Lister_put H).mono (by decide)|>.mono (Nat.le_refl _), He.cls_ok (H.c.fact 73 (f := .cls "Lister") rfl), He.meth_ok (H.c.fact 81 (f := .meth "Lister" "put") rfl)⟩ hr) (fun ds m Q X h => l_SayingReader_finish h)
theorem a_SayingReader_reduce (H : HX K w mg) : FnA R.prog w K mg base 3 3 g_SayingReader_reduce [] (He.ma K (He.ga K "SayingReader") "reduce") := by
  obtain ⟨fd, F⟩ := H.c.def_ 21 (d := d_SayingReader_reduce) rfl
  exact fnA_N (k := 2) F S_SayingReader_reduce (fun _ _ _ _ _ _ us hl => match us, hl with | [_, _, _], _ => rfl) (by intro ds m Q X h; unfold g_SayingReader_reduce at h; repeat (first | (obtain ⟨e, _⟩ := h; rw [e]; rfl) | (obtain ⟨_, h⟩ := h))) (fun cdv A outer s H2 E hr => w_SayingReader_reduce H.M ⟨(a_Lister_put H).mono (by decide)|>.mono (Nat.le_refl _), He.cls_ok (H.c.fact 73 (f := .cls "Lister") rfl), He.meth_ok (H.c.fact 81 (f := .meth "Lister" "put") rfl)⟩ hr) (fun ds m Q X h => l_SayingReader_reduce h)
theorem a_SayingReader_take_join (H : HX K w mg) : FnA R.prog w K mg base 4 2 g_SayingReader_take_join [] (He.ma K (He.ga K "SayingReader") "take_join") := by
  obtain ⟨fd, F⟩ := H.c.def_ 22 (d := d_SayingReader_take_join) rfl
  exact fnA_N (k := 3) F S_SayingReader_take_join (fun _ _ _ _ _ _ us hl => match us, hl with | [_, _], _ => rfl) (by intro ds m Q X h; unfold g_SayingReader_take_join at h; repeat (first | (obtain ⟨e, _⟩ := h; rw [e]; rfl) | (obtain ⟨_, h⟩ := h))) (fun cdv A outer s H2 E hr => w_SayingReader_take_join H.M ⟨(a_SayingReader_finish H).mono (by decide)|>.mono (Nat.le_refl _), He.cls_ok (H.c.fact 79 (f := .cls "SayingReader") rfl), He.meth_ok (H.c.fact 84 (f := .meth "SayingReader" "finish") rfl)⟩ ⟨(a_SayingReader_reduce H).mono (by decide)|>.mono (Nat.le_refl _), He.cls_ok (H.c.fact 79 (f := .cls "SayingReader") rfl), He.meth_ok (H.c.fact 85 (f := .meth "SayingReader" "reduce") rfl)⟩ hr) (fun ds m Q X h => l_SayingReader_take_join h)
theorem a_SayingReader_take_operand (H : HX K w mg) : FnA R.prog w K mg base 4 2 g_SayingReader_take_operand [] (He.ma K (He.ga K "SayingReader") "take_operand") := by
  obtain ⟨fd, F⟩ := H.c.def_ 19 (d := d_SayingReader_take_operand) rfl
  exact fnA_N (k := 3) F S_SayingReader_take_operand (fun _ _ _ _ _ _ us hl => match us, hl with | [_, _], _ => rfl) (by intro ds m Q X h; unfold g_SayingReader_take_operand at h; repeat (first | (obtain ⟨e, _⟩ := h; rw [e]; rfl) | (obtain ⟨_, h⟩ := h))) (fun cdv A outer s H2 E hr => w_SayingReader_take_operand H.M ⟨(a_Level___init__ H).mono (by decide)|>.mono (Nat.le_refl _), H.glo 75, He.mkr_ok (H.c.fact 77 (f := .mkr "Level") rfl)⟩ ⟨(a_Lister_put H).mono (by decide)|>.mono (Nat.le_refl _), He.cls_ok (H.c.fact 73 (f := .cls "Lister") rfl), He.meth_ok (H.c.fact 81 (f := .meth "Lister" "put") rfl)⟩ ⟨(a_SayingReader_finish H).mono (by decide)|>.mono (Nat.le_refl _), He.cls_ok (H.c.fact 79 (f := .cls "SayingReader") rfl), He.meth_ok (H.c.fact 84 (f := .meth "SayingReader" "finish") rfl)⟩ ⟨(a_is_term H).mono (by decide)|>.mono (Nat.le_refl _), H.glo 12, He.keep_ok (H.c.fact 13 (f := .keep "is_term") rfl)⟩ hr) (fun ds m Q X h => l_SayingReader_take_operand h)
theorem a_SayingReader_take_word (H : HX K w mg) : FnA R.prog w K mg base 5 2 g_SayingReader_take_word [] (He.ma K (He.ga K "SayingReader") "take_word") := by
  obtain ⟨fd, F⟩ := H.c.def_ 18 (d := d_SayingReader_take_word) rfl
  exact fnA_N (k := 4) F S_SayingReader_take_word (fun _ _ _ _ _ _ us hl => match us, hl with | [_, _], _ => rfl) (by intro ds m Q X h; unfold g_SayingReader_take_word at h; repeat (first | (obtain ⟨e, _⟩ := h; rw [e]; rfl) | (obtain ⟨_, h⟩ := h))) (fun cdv A outer s H2 E hr => w_SayingReader_take_word H.M ⟨(a_Lister_put H).mono (by decide)|>.mono (Nat.le_refl _), He.cls_ok (H.c.fact 73 (f := .cls "Lister") rfl), He.meth_ok (H.c.fact 81 (f := .meth "Lister" "put") rfl)⟩ ⟨(a_SayingReader_finish H).mono (by decide)|>.mono (Nat.le_refl _), He.cls_ok (H.c.fact 79 (f := .cls "SayingReader") rfl), He.meth_ok (H.c.fact 84 (f := .meth "SayingReader" "finish") rfl)⟩ ⟨(a_SayingReader_take_join H).mono (by decide)|>.mono (Nat.le_refl _), He.cls_ok (H.c.fact 79 (f := .cls "SayingReader") rfl), He.meth_ok (H.c.fact 86 (f := .meth "SayingReader" "take_join") rfl)⟩ ⟨(a_SayingReader_take_operand H).mono (by decide)|>.mono (Nat.le_refl _), He.cls_ok (H.c.fact 79 (f := .cls "SayingReader") rfl), He.meth_ok (H.c.fact 83 (f := .meth "SayingReader" "take_operand") rfl)⟩ ⟨(a_is_term H).mono (by decide)|>.mono (Nat.le_refl _), H.glo 12, He.keep_ok (H.c.fact 13 (f := .keep "is_term") rfl)⟩ hr) (fun ds m Q X h => l_SayingReader_take_word h)
theorem a_SayingReader_whole (H : HX K w mg) : FnA R.prog w K mg base 4 1 g_SayingReader_whole [] (He.ma K (He.ga K "SayingReader") "whole") := by
  obtain ⟨fd, F⟩ := H.c.def_ 24 (d := d_SayingReader_whole) rfl
  exact fnA_N (k := 3) F S_SayingReader_whole (fun _ _ _ _ _ _ us hl => match us, hl with | [_], _ => rfl) (by intro ds m Q X h; unfold g_SayingReader_whole at h; repeat (first | (obtain ⟨e, _⟩ := h; rw [e]; rfl) | (obtain ⟨_, h⟩ := h))) (fun cdv A outer s H2 E hr => w_SayingReader_whole H.M ⟨(a_SayingReader_reduce H).mono (by decide)|>.mono (Nat.le_refl _), He.cls_ok (H.c.fact 79 (f := .cls "SayingReader") rfl), He.meth_ok (H.c.fact 85 (f := .meth "SayingReader" "reduce") rfl)⟩ hr) (fun ds m Q X h => l_SayingReader_whole h)
theorem a_scanned (H : HX K w mg) : FnA R.prog w K mg base 2 3 g_scanned [] (He.ga K "scanned") := by
  obtain ⟨fd, F⟩ := H.c.def_ 11 (d := d_scanned) rfl
  exact fnA_N (k := 1) F S_scanned (fun _ _ _ _ _ _ us hl => match us, hl with | [_, _, _], _ => rfl) (by intro ds m Q X h; unfold g_scanned at h; repeat (first | (obtain ⟨e, _⟩ := h; rw [e]; rfl) | (obtain ⟨_, h⟩ := h))) (fun cdv A outer s H2 E hr => w_scanned H.M  hr) (fun ds m Q X h => l_scanned h)
theorem a_read_by (H : HX K w mg) : FnA R.prog w K mg base 6 2 g_read_by [] (He.ga K "read_by") := by
  obtain ⟨fd, F⟩ := H.c.def_ 12 (d := d_read_by) rfl
  exact fnA_N (k := 5) F S_read_by (fun _ _ _ _ _ _ us hl => match us, hl with | [_, _], _ => rfl) (by intro ds m Q X h; unfold g_read_by at h; repeat (first | (obtain ⟨e, _⟩ := h; rw [e]; rfl) | (obtain ⟨_, h⟩ := h))) (fun cdv A outer s H2 E hr => w_read_by H.M ⟨(a_SayingReader_may_end H).mono (by decide)|>.mono (Nat.le_refl _), He.cls_ok (H.c.fact 79 (f := .cls "SayingReader") rfl), He.meth_ok (H.c.fact 87 (f := .meth "SayingReader" "may_end") rfl)⟩ ⟨(a_SayingReader_take_word H).mono (by decide)|>.mono (Nat.le_refl _), He.cls_ok (H.c.fact 79 (f := .cls "SayingReader") rfl), He.meth_ok (H.c.fact 82 (f := .meth "SayingReader" "take_word") rfl)⟩ ⟨(a_SayingReader_whole H).mono (by decide)|>.mono (Nat.le_refl _), He.cls_ok (H.c.fact 79 (f := .cls "SayingReader") rfl), He.meth_ok (H.c.fact 88 (f := .meth "SayingReader" "whole") rfl)⟩ ⟨(a_scanned H).mono (by decide)|>.mono (Nat.le_refl _), H.glo 22, He.keep_ok (H.c.fact 23 (f := .keep "scanned") rfl)⟩ hr) (fun ds m Q X h => l_read_by h)
theorem a_read_over (H : HX K w mg) : FnA R.prog w K mg base 7 2 g_read_over [] (He.ga K "read_over") := by
  obtain ⟨fd, F⟩ := H.c.def_ 25 (d := d_read_over) rfl
  exact fnS_N (k := 6) F S_read_over (fun _ _ _ _ _ _ us hl => match us, hl with | [_, _], _ => rfl) (by intro ds m Q X h; unfold g_read_over at h; repeat (first | (obtain ⟨e, _⟩ := h; rw [e]; rfl) | (obtain ⟨_, h⟩ := h))) (fun cdv A outer s H2 E hr => w_read_over H.M ⟨(a_SayingReader___init__ H).mono (by decide)|>.shr, H.glo 78, He.mkr_ok (H.c.fact 80 (f := .mkr "SayingReader") rfl)⟩ ⟨(a_read_by H).mono (by decide)|>.shr, H.glo 24, He.keep_ok (H.c.fact 25 (f := .keep "read_by") rfl)⟩ hr) (fun ds m Q X h => l_read_over h)
theorem a_read_saying (H : HX K w mg) : FnA R.prog w K mg base 8 2 g_read_saying [] (He.ga K "read_saying") := by
  obtain ⟨fd, F⟩ := H.c.def_ 26 (d := d_read_saying) rfl
  exact fnS_N (k := 7) F S_read_saying (fun _ _ _ _ _ _ us hl => match us, hl with | [_, _], _ => rfl) (by intro ds m Q X h; unfold g_read_saying at h; repeat (first | (obtain ⟨e, _⟩ := h; rw [e]; rfl) | (obtain ⟨_, h⟩ := h))) (fun cdv A outer s H2 E hr => w_read_saying H.M ⟨(a_check_names H).mono (by decide)|>.shr, H.glo 10, He.keep_ok (H.c.fact 11 (f := .keep "check_names") rfl)⟩ ⟨(a_read_over H).mono (by decide)|>.mono (Nat.le_refl _), H.glo 28, He.keep_ok (H.c.fact 29 (f := .keep "read_over") rfl)⟩ hr) (fun ds m Q X h => l_read_saying h)
theorem a__law_refused (H : HX K w mg) : FnA R.prog w K mg base 38 1 g__law_refused [] (He.ga K "_law_refused") := by
  obtain ⟨fd, F⟩ := H.c.def_ 42 (d := d__law_refused) rfl
  exact fnS_N (k := 37) F S__law_refused (fun _ _ _ _ _ _ us hl => match us, hl with | [_], _ => rfl) (by intro ds m Q X h; unfold g__law_refused at h; repeat (first | (obtain ⟨e, _⟩ := h; rw [e]; rfl) | (obtain ⟨_, h⟩ := h))) (fun cdv A outer s H2 E hr => w__law_refused H.M ⟨(a_checked_sheet H).mono (by decide)|>.shr, H.glo 18, He.keep_ok (H.c.fact 19 (f := .keep "checked_sheet") rfl)⟩ ⟨(a_read_saying H).mono (by decide)|>.mono (Nat.le_refl _), H.glo 30, He.keep_ok (H.c.fact 31 (f := .keep "read_saying") rfl)⟩ hr) (fun ds m Q X h => l__law_refused h)
theorem a__law_exact (H : HX K w mg) : FnA R.prog w K mg base 3 2 g__law_exact [] (He.ga K "_law_exact") := by
  obtain ⟨fd, F⟩ := H.c.def_ 32 (d := d__law_exact) rfl
  exact fnS_N (k := 2) F S__law_exact (fun _ _ _ _ _ _ us hl => match us, hl with | [_, _], _ => rfl) (by intro ds m Q X h; unfold g__law_exact at h; repeat (first | (obtain ⟨e, _⟩ := h; rw [e]; rfl) | (obtain ⟨_, h⟩ := h))) (fun cdv A outer s H2 E hr => w__law_exact H.M ⟨(a__law_pick H).mono (by decide)|>.mono (Nat.le_refl _), H.glo 40, He.keep_ok (H.c.fact 41 (f := .keep "_law_pick") rfl)⟩ hr) (fun ds m Q X h => l__law_exact h)
theorem a__law_loose (H : HX K w mg) : FnA R.prog w K mg base 3 2 g__law_loose [] (He.ga K "_law_loose") := by
  obtain ⟨fd, F⟩ := H.c.def_ 33 (d := d__law_loose) rfl
  exact fnS_N (k := 2) F S__law_loose (fun _ _ _ _ _ _ us hl => match us, hl with | [_, _], _ => rfl) (by intro ds m Q X h; unfold g__law_loose at h; repeat (first | (obtain ⟨e, _⟩ := h; rw [e]; rfl) | (obtain ⟨_, h⟩ := h))) (fun cdv A outer s H2 E hr => w__law_loose H.M ⟨(a__law_pick H).mono (by decide)|>.mono (Nat.le_refl _), H.glo 40, He.keep_ok (H.c.fact 41 (f := .keep "_law_pick") rfl)⟩ hr) (fun ds m Q X h => l__law_loose h)
theorem a__law_shape (H : HX K w mg) : FnA R.prog w K mg base 4 2 g__law_shape [] (He.ga K "_law_shape") := by
  obtain ⟨fd, F⟩ := H.c.def_ 34 (d := d__law_shape) rfl
  exact fnS_N (k := 3) F S__law_shape (fun _ _ _ _ _ _ us hl => match us, hl with | [_, _], _ => rfl) (by intro ds m Q X h; unfold g__law_shape at h; repeat (first | (obtain ⟨e, _⟩ := h; rw [e]; rfl) | (obtain ⟨_, h⟩ := h))) (fun cdv A outer s H2 E hr => w__law_shape H.M ⟨(a__law_exact H).mono (by decide)|>.mono (Nat.le_refl _), H.glo 42, He.keep_ok (H.c.fact 43 (f := .keep "_law_exact") rfl)⟩ ⟨(a__law_loose H).mono (by decide)|>.mono (Nat.le_refl _), H.glo 44, He.keep_ok (H.c.fact 45 (f := .keep "_law_loose") rfl)⟩ ⟨(a__law_pick H).mono (by decide)|>.mono (Nat.le_refl _), H.glo 40, He.keep_ok (H.c.fact 41 (f := .keep "_law_pick") rfl)⟩ hr) (fun ds m Q X h => l__law_shape h)
theorem a__law_sheet (H : HX K w mg) : FnA R.prog w K mg base 4 3 g__law_sheet [] (He.ga K "_law_sheet") := by
  obtain ⟨fd, F⟩ := H.c.def_ 35 (d := d__law_sheet) rfl
  exact fnS_N (k := 3) F S__law_sheet (fun _ _ _ _ _ _ us hl => match us, hl with | [_, _, _], _ => rfl) (by intro ds m Q X h; unfold g__law_sheet at h; repeat (first | (obtain ⟨e, _⟩ := h; rw [e]; rfl) | (obtain ⟨_, h⟩ := h))) (fun cdv A outer s H2 E hr => w__law_sheet H.M ⟨(a__law_exact H).mono (by decide)|>.mono (Nat.le_refl _), H.glo 42, He.keep_ok (H.c.fact 43 (f := .keep "_law_exact") rfl)⟩ ⟨(a__law_loose H).mono (by decide)|>.mono (Nat.le_refl _), H.glo 44, He.keep_ok (H.c.fact 45 (f := .keep "_law_loose") rfl)⟩ ⟨(a__law_pick H).mono (by decide)|>.mono (Nat.le_refl _), H.glo 40, He.keep_ok (H.c.fact 41 (f := .keep "_law_pick") rfl)⟩ hr) (fun ds m Q X h => l__law_sheet h)
theorem a__law_width (H : HX K w mg) : FnA R.prog w K mg base 2 1 g__law_width [] (He.ga K "_law_width") := by
  obtain ⟨fd, F⟩ := H.c.def_ 40 (d := d__law_width) rfl
  exact fnS_N (k := 1) F S__law_width (fun _ _ _ _ _ _ us hl => match us, hl with | [_], _ => rfl) (by intro ds m Q X h; unfold g__law_width at h; repeat (first | (obtain ⟨e, _⟩ := h; rw [e]; rfl) | (obtain ⟨_, h⟩ := h))) (fun cdv A outer s H2 E hr => w__law_width H.M  hr) (fun ds m Q X h => l__law_width h)
theorem a__law_short (H : HX K w mg) : FnA R.prog w K mg base 5 3 g__law_short [] (He.ga K "_law_short") := by
  obtain ⟨fd, F⟩ := H.c.def_ 41 (d := d__law_short) rfl
  exact fnS_N (k := 4) F S__law_short (fun _ _ _ _ _ _ us hl => match us, hl with | [_, _, _], _ => rfl) (by intro ds m Q X h; unfold g__law_short at h; repeat (first | (obtain ⟨e, _⟩ := h; rw [e]; rfl) | (obtain ⟨_, h⟩ := h))) (fun cdv A outer s H2 E hr => w__law_short H.M ⟨(a__law_pick H).mono (by decide)|>.mono (Nat.le_refl _), H.glo 40, He.keep_ok (H.c.fact 41 (f := .keep "_law_pick") rfl)⟩ ⟨(a__law_shape H).mono (by decide)|>.mono (Nat.le_refl _), H.glo 46, He.keep_ok (H.c.fact 47 (f := .keep "_law_shape") rfl)⟩ ⟨(a__law_sheet H).mono (by decide)|>.mono (Nat.le_refl _), H.glo 48, He.keep_ok (H.c.fact 49 (f := .keep "_law_sheet") rfl)⟩ ⟨(a__law_width H).mono (by decide)|>.mono (Nat.le_refl _), H.glo 58, He.keep_ok (H.c.fact 59 (f := .keep "_law_width") rfl)⟩ hr) (fun ds m Q X h => l__law_short h)
theorem a__law_source (H : HX K w mg) : FnA R.prog w K mg base 2 2 g__law_source [] (He.ga K "_law_source") := by
  obtain ⟨fd, F⟩ := H.c.def_ 30 (d := d__law_source) rfl
  exact fnS_N (k := 1) F S__law_source (fun _ _ _ _ _ _ us hl => match us, hl with | [_, _], _ => rfl) (by intro ds m Q X h; unfold g__law_source at h; repeat (first | (obtain ⟨e, _⟩ := h; rw [e]; rfl) | (obtain ⟨_, h⟩ := h))) (fun cdv A outer s H2 E hr => w__law_source H.M  hr) (fun ds m Q X h => l__law_source h)
theorem a__law_tidyN (H : HX K w mg) : ∀ n : Nat, FnA R.prog w K mg base (n + 6) 3 (g_tidyN n) [] (He.ga K "_law_tidy") := by
  obtain ⟨fd, F⟩ := H.c.def_ 38 (d := d__law_tidy) rfl
  intro n
  induction n with
  | zero => exact (fnA_false (ps := P__law_tidy) F S__law_tidy (fun _ _ _ _ _ _ us hl => match us, hl with | [_, _, _], _ => rfl) (fun ds m Q X h => by obtain ⟨_, _, _, _, _, _, _, _, _, _, _, _, _, h, _⟩ := h; exact absurd h (Nat.not_lt_zero _))).mono (by decide)
  | succ n ih =>
    exact fnS_N (k := n + 6) F S__law_tidy (fun _ _ _ _ _ _ us hl => match us, hl with | [_, _, _], _ => rfl) (fun ds m Q X h => by obtain ⟨_, _, _, _, _, _, e, _⟩ := h; rw [e]; rfl) (fun cdv A outer s H2 E hr => w__law_tidy (k := n + 5) H.M ⟨(a__law_listed H).mono (by omega), H.glo 56, He.keep_ok (H.c.fact 57 (f := .keep "_law_listed") rfl)⟩ ⟨ih, H.glo 54, He.keep_ok (H.c.fact 55 (f := .keep "_law_tidy") rfl)⟩ hr) (fun ds m Q X h => l__law_tidy h)
theorem a__law_tidy (H : HX K w mg) : FnA R.prog w K mg base 110 3 g__law_tidy [] (He.ga K "_law_tidy") := (a__law_tidyN H 100).mono (by decide)
theorem a__law_bound (H : HX K w mg) : FnA R.prog w K mg base 2 1 g__law_bound [] (He.ga K "_law_bound") := by
  obtain ⟨fd, F⟩ := H.c.def_ 36 (d := d__law_bound) rfl
  exact fnS_N (k := 1) F S__law_bound (fun _ _ _ _ _ _ us hl => match us, hl with | [_], _ => rfl) (by intro ds m Q X h; unfold g__law_bound at h; repeat (first | (obtain ⟨e, _⟩ := h; rw [e]; rfl) | (obtain ⟨_, h⟩ := h))) (fun cdv A outer s H2 E hr => w__law_bound H.M  hr) (fun ds m Q X h => l__law_bound h)
theorem a__law_writtenN (H : HX K w mg) : ∀ n : Nat, FnA R.prog w K mg base (n + 6) 3 (g_writtenN n) [] (He.ga K "_law_written") := by
  obtain ⟨fd, F⟩ := H.c.def_ 37 (d := d__law_written) rfl
  intro n
  induction n with
  | zero => exact (fnA_false (ps := P__law_written) F S__law_written (fun _ _ _ _ _ _ us hl => match us, hl with | [_, _, _], _ => rfl) (fun ds m Q X h => by obtain ⟨_, _, _, _, _, _, _, _, _, _, _, _, h, _⟩ := h; exact absurd h (Nat.not_lt_zero _))).mono (by decide)
  | succ n ih =>
    exact fnS_N (k := n + 6) F S__law_written (fun _ _ _ _ _ _ us hl => match us, hl with | [_, _, _], _ => rfl) (fun ds m Q X h => by obtain ⟨_, _, _, _, _, e, _⟩ := h; rw [e]; rfl) (fun cdv A outer s H2 E hr => w__law_written (k := n + 5) H.M ⟨(a__law_bound H).mono (by omega), H.glo 50, He.keep_ok (H.c.fact 51 (f := .keep "_law_bound") rfl)⟩ ⟨(a__law_pick H).mono (by omega), H.glo 40, He.keep_ok (H.c.fact 41 (f := .keep "_law_pick") rfl)⟩ ⟨ih, H.glo 52, He.keep_ok (H.c.fact 53 (f := .keep "_law_written") rfl)⟩ hr) (fun ds m Q X h => l__law_written h)
theorem a__law_written (H : HX K w mg) : FnA R.prog w K mg base 110 3 g__law_written [] (He.ga K "_law_written") := (a__law_writtenN H 100).mono (by decide)
theorem a_referred (H : HX K w mg) : FnA R.prog w K mg base 2 1 g_referred [] (He.ga K "referred") := by
  obtain ⟨fd, F⟩ := H.c.def_ 10 (d := d_referred) rfl
  exact fnA_N (k := 1) F S_referred (fun _ _ _ _ _ _ us hl => match us, hl with | [_], _ => rfl) (by intro ds m Q X h; unfold g_referred at h; repeat (first | (obtain ⟨e, _⟩ := h; rw [e]; rfl) | (obtain ⟨_, h⟩ := h))) (fun cdv A outer s H2 E hr => w_referred H.M  hr) (fun ds m Q X h => l_referred h)
theorem a_renumbered (H : HX K w mg) : FnA R.prog w K mg base 3 2 g_renumbered [] (He.ga K "renumbered") := by
  obtain ⟨fd, F⟩ := H.c.def_ 27 (d := d_renumbered) rfl
  exact fnS_N (k := 2) F S_renumbered (fun _ _ _ _ _ _ us hl => match us, hl with | [_, _], _ => rfl) (by intro ds m Q X h; unfold g_renumbered at h; repeat (first | (obtain ⟨e, _⟩ := h; rw [e]; rfl) | (obtain ⟨_, h⟩ := h))) (fun cdv A outer s H2 E hr => w_renumbered H.M ⟨(a_referred H).mono (by decide)|>.shr, H.glo 20, He.keep_ok (H.c.fact 21 (f := .keep "referred") rfl)⟩ hr) (fun ds m Q X h => l_renumbered h)
theorem LTt_at (H : HX K w mg) {x : Str} {g : SPEC} (e : LTt x = some g) : ∃ n, FnG R.prog w K mg base 3 n g [] x := by
  unfold LTt at e
  split at e
  · rename_i q; subst q; cases e
    exact ⟨1, (a_referred H).shr.mono (by decide), H.glo 20, He.keep_ok (H.c.fact 21 (f := .keep "referred") rfl)⟩
  · split at e
    · rename_i q; subst q; cases e
      exact ⟨2, (a_renumbered H).mono (by decide), H.glo 32, He.keep_ok (H.c.fact 33 (f := .keep "renumbered") rfl)⟩
    · cases e
theorem a_tidied (H : HX K w mg) : FnA R.prog w K mg base 4 3 g_tidied [] (He.ga K "tidied") := by
  obtain ⟨fd, F⟩ := H.c.def_ 15 (d := d_tidied) rfl
  exact fnS_N (k := 3) F S_tidied (fun _ _ _ _ _ _ us hl => match us, hl with | [_, _, _], _ => rfl) (by intro ds m Q X h; unfold g_tidied at h; repeat (first | (obtain ⟨e, _⟩ := h; rw [e]; rfl) | (obtain ⟨_, h⟩ := h))) (fun cdv A outer s H2 E hr => w_tidied H.M ⟨(a_Lister___init__ H).mono (by decide)|>.shr, H.glo 72, He.mkr_ok (H.c.fact 74 (f := .mkr "Lister") rfl)⟩ ⟨(a_Lister_put H).mono (by decide)|>.shr, He.cls_ok (H.c.fact 73 (f := .cls "Lister") rfl), He.meth_ok (H.c.fact 81 (f := .meth "Lister" "put") rfl)⟩ (fun x g e => LTt_at H e) hr) (fun ds m Q X h => l_tidied h)
theorem a_tidy_over (H : HX K w mg) : FnA R.prog w K mg base 5 1 g_tidy_over [] (He.ga K "tidy_over") := by
  obtain ⟨fd, F⟩ := H.c.def_ 28 (d := d_tidy_over) rfl
  exact fnS_N (k := 4) F S_tidy_over (fun _ _ _ _ _ _ us hl => match us, hl with | [_], _ => rfl) (by intro ds m Q X h; unfold g_tidy_over at h; repeat (first | (obtain ⟨e, _⟩ := h; rw [e]; rfl) | (obtain ⟨_, h⟩ := h))) (fun cdv A outer s H2 E hr => w_tidy_over H.M ⟨(a_tidied H).mono (by decide)|>.mono (Nat.le_refl _), H.glo 26, He.keep_ok (H.c.fact 27 (f := .keep "tidied") rfl)⟩ hr) (fun ds m Q X h => l_tidy_over h)
theorem a_tidy_saying (H : HX K w mg) : FnA R.prog w K mg base 37 2 g_tidy_saying [] (He.ga K "tidy_saying") := by
  obtain ⟨fd, F⟩ := H.c.def_ 29 (d := d_tidy_saying) rfl
  exact fnS_N (k := 36) F S_tidy_saying (fun _ _ _ _ _ _ us hl => match us, hl with | [_, _], _ => rfl) (by intro ds m Q X h; unfold g_tidy_saying at h; repeat (first | (obtain ⟨e, _⟩ := h; rw [e]; rfl) | (obtain ⟨_, h⟩ := h))) (fun cdv A outer s H2 E hr => w_tidy_saying H.M ⟨(a_check_names H).mono (by decide)|>.shr, H.glo 10, He.keep_ok (H.c.fact 11 (f := .keep "check_names") rfl)⟩ ⟨(a_sheet_over H).mono (by decide)|>.shr, H.glo 16, He.keep_ok (H.c.fact 17 (f := .keep "sheet_over") rfl)⟩ ⟨(a_tidy_over H).mono (by decide)|>.mono (Nat.le_refl _), H.glo 34, He.keep_ok (H.c.fact 35 (f := .keep "tidy_over") rfl)⟩ hr) (fun ds m Q X h => l_tidy_saying h)
end
/-- what the law's def is -/
theorem law_at {K : PySem.W.Frag} {w : World} {mg : Str → Option Value} (H : HX K w mg) : ∃ fd : FuncData, (∀ (s : Shared) (v : Value), BindsTo s fd ⟨[v], []⟩ [(P_law[0], v)]) ∧ ∀ base : Heap, FnOk R.prog w K mg base (L2.CX R.prog w) 111 (He.ga K "law") fd P_law (spOf K P_law.length g_law) := by
  obtain ⟨fd, F⟩ := H.c.def_ 43 (d := d_law) rfl
  have b := FunD.bindsA (ps := P_law) F fun _ _ _ _ _ _ us hl => match us, hl with | [_], _ => rfl
  refine ⟨fd, fun s v => b s [v] rfl, fun base => ?_⟩
  exact fnOkS (k := 110) F S_law (by intro ds m Q X h; obtain ⟨_, rfl, _⟩ := h; rfl) (fun cdv A outer s H2 E hr => w_law H.M ⟨(a__law_listed H).mono (by decide)|>.mono (Nat.le_refl _), H.glo 56, He.keep_ok (H.c.fact 57 (f := .keep "_law_listed") rfl)⟩ ⟨(a__law_pick H).mono (by decide)|>.mono (Nat.le_refl _), H.glo 40, He.keep_ok (H.c.fact 41 (f := .keep "_law_pick") rfl)⟩ ⟨(a__law_refused H).mono (by decide)|>.mono (Nat.le_refl _), H.glo 62, He.keep_ok (H.c.fact 63 (f := .keep "_law_refused") rfl)⟩ ⟨(a__law_short H).mono (by decide)|>.mono (Nat.le_refl _), H.glo 60, He.keep_ok (H.c.fact 61 (f := .keep "_law_short") rfl)⟩ ⟨(a__law_source H).mono (by decide)|>.mono (Nat.le_refl _), H.glo 38, He.keep_ok (H.c.fact 39 (f := .keep "_law_source") rfl)⟩ ⟨(a__law_tidy H).mono (by decide)|>.mono (Nat.le_refl _), H.glo 54, He.keep_ok (H.c.fact 55 (f := .keep "_law_tidy") rfl)⟩ ⟨(a__law_written H).mono (by decide)|>.mono (Nat.le_refl _), H.glo 52, He.keep_ok (H.c.fact 53 (f := .keep "_law_written") rfl)⟩ ⟨(a_checked_sheet H).mono (by decide)|>.shr, H.glo 18, He.keep_ok (H.c.fact 19 (f := .keep "checked_sheet") rfl)⟩ ⟨(a_read_saying H).mono (by decide)|>.mono (Nat.le_refl _), H.glo 30, He.keep_ok (H.c.fact 31 (f := .keep "read_saying") rfl)⟩ ⟨(a_tidy_saying H).mono (by decide)|>.mono (Nat.le_refl _), H.glo 36, He.keep_ok (H.c.fact 37 (f := .keep "tidy_saying") rfl)⟩ hr) (fun ds m Q X h => l_law h)
abbrev lawK : Nat := 111
abbrev lawGlo : Nat := 64
end L2.EV
set_option maxHeartbeats 0
namespace L2.EV
open PySem PySem.Spec PyProof.Rows
abbrev qv : Program := PySem.W.view R.prog [lawIx]
theorem run0 (w : World) : HandSHeadRun.RunEq R qv hk ob 6000 loose (w.withFollow "special-get-raises" false) := by
  intro os
  kernel_rfl
theorem run1 (w : World) : HandSHeadRun.RunEq R qv hk ob 6000 loose (w.withFollow "special-get-raises" true) := by
  intro os
  kernel_rfl
theorem run (w : World) : HandSHeadRun.RunEq R qv hk ob 6000 loose w := PySem.W.byRow2 "special-get-raises" (P := fun w => HandSHeadRun.RunEq R qv hk ob 6000 loose w) run0 run1 w
theorem law_g {ns : List Int} (hl : ns.length ≤ 63) (hb : ∀ z ∈ ns, Builtin.Int.intBits z ≤ 1048576) {m : Mem} {d : D} {Q : QD} {X : XD} (h : lisOf m d = some (ns.map D.int)) (hQ : ∀ m', Q (.bl true) m') : g_law [d] m Q X :=
  ⟨d, rfl, ⟨ns, h, hl, fun z hz => Nat.lt_of_lt_of_le (intBits_le_iff.mp (hb z hz)) (Nat.pow_le_pow_right (by decide) (by decide))⟩, hQ m⟩
end L2.EV
open PySem PySem.W PySem.Calls PyProof.Rows
theorem PySem.Challenge.cw_anyhelper_k01_whole_sayings_read_holds : PySem.Challenge.rw_anyhelper_k01_whole_sayings_read.Holds := by
  w_on; o_law
  refine HandSHeadRun.head_any (r := OpenLaw.row PySem.Challenge.rw_anyhelper_k01_whole_sayings_read) (q := L2.EV.qv) (H := L2.EV.hk) (ob := L2.EV.ob) (M := 6000) (loose := L2.EV.loose) (d := HandSHeadRun.topDef (OpenLaw.row PySem.Challenge.rw_anyhelper_k01_whole_sayings_read).prog L2.EV.lawIx) (kwd := []) L2.EV.ob_eq
    (by kernel_rfl) (fun s => by kernel_rfl) L2.EV.run (by kernel_rfl) (by kernel_rfl) (by kernel_rfl) (by rfl) (by first | assumption | decide +kernel) (by decide +kernel) ⟨rfl, rfl, rfl, rfl, rfl, by decide +kernel⟩ ?hw ?hc
  case hw => w_witness2
  case hc =>
    refine LamX.walk_ofTsE (l := PySem.Challenge.rw_anyhelper_k01_whole_sayings_read) (n := 63) (k := L2.EV.lawK) (x := L2.EV.P_law[0]) (CX := fun w => L2.CX (PySem.Challenge.rw_anyhelper_k01_whole_sayings_read).prog w) rfl (by decide) (by kernel_rfl) ⟨rfl, by decide, by decide⟩ ?F (fun w H s e s' h => L2.EV.cx_no w H s e s' h)
    intro w mg fa h Y G hmg0
    obtain ⟨K, KX, c⟩ := Y
    have hmg : mg ("law" : PySem.Str) = some (.ref fa) := by
      have e : (HandSHeadRun.topDef (OpenLaw.row PySem.Challenge.rw_anyhelper_k01_whole_sayings_read).prog L2.EV.lawIx).name = ("law" : PySem.Str) := by kernel_rfl
      rw [← e]
      exact hmg0
    have HH : L2.EV.HX K w mg := ⟨L2.EV.md_of KX G c, congrArg (fun z : L2.EV.AlE => z.1.1) c, ⟨h, KX, G⟩⟩
    obtain ⟨fd, hb, hF⟩ := L2.EV.law_at HH
    have e := hmg.symm.trans (HH.glo (x := "law") L2.EV.lawGlo)
    cases e
    exact ⟨K, KX, fd, [], _, (fun _ h => nomatch h), (fun _ h => nomatch h), (fun _ h => nomatch h), hb, (fun H a ns hl hbits _ hS => L2.EV.scr_spec hS fun m d Q X h hQ => L2.EV.law_g hl hbits h hQ), fun base _ _ _ => hF base⟩
