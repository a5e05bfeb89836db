import PyProof.Rows.All
import Wide.All
import OpenK.AllK
import Wide.FinOn
import HandS.ForMost
import HandS.Exc
import HandS.TupAny
import HandS.Deep
import HandS.WordsExc
import HandS.Defaults
import HandS.Wide
import HandS.IsInst
import HandS.StrMore
import HandS.RaiseMore
import PyProof.StrBlock2
import PyProof.StrBlockL
import HandS.Style
import KE.KStateDown
import HandS.More
import HandS.Head0
import HandS.Head1
import HandS.Head2
import HandS.HeadEnd
import HandS.HeadHook1
import HandS.HeadHook2
import PySem.Challenge.RW_againbook_k60_books_written_and_read
set_option Elab.async false
set_option linter.all false
set_option maxRecDepth 100000
set_option maxHeartbeats 4000000
/-! the data layer: values without addresses of tuples -/
namespace ML
open PySem PySem.Spec PyProof.Rows L2

inductive D where
  | non | bl (b : Bool) | int (i : Int) | str (x : List Nat) | tup (xs : List D) | ref (a : Addr) | cl (xs : List D)
/-- the written part; classes by numbers: where they stand, their instances' fields in order -/
structure Gv where
  K : PySem.W.Frag
  adr : Nat → Addr
  fn : Nat → List Str
/-- the exception at a -/
def ExcO (a C : Addr) (d : Option Addr) : Heap → Prop := fun h => ∃ oe, h.get? a = some oe ∧ Zc (.ref C) d oe ∧ ∃ vs, oe.data = .fields vs
/-- the tuple at a -/
def TupAt (K : PySem.W.Frag) (H : Hp) (a : Addr) (xs : List V) : Prop :=
  H a = some (.tup xs) ∨
    ∃ (o : Obj) (its : Array Value) (n : Nat), K.lookup a = some o ∧ o.cls = .type "tuple" ∧ o.data = .seq its n ∧ its.size ≤ sizeLine ∧ Vals xs its.toList
/-- a list that is only read -/
def ClAt (K : PySem.W.Frag) (H : Hp) (a : Addr) (xs : List V) : Prop :=
  (∃ o, H a = some (.frz o (.lst xs))) ∨
    ∃ (o : Obj) (its : Array Value) (n : Nat), K.lookup a = some o ∧ o.cls = .type "list" ∧ o.dict = none ∧ o.data = .seq its n ∧ its.size ≤ sizeLine ∧ Vals xs its.toList
theorem ClAt.sq {K : PySem.W.Frag} {H : Hp} {a : Addr} {xs : List V} (h : ClAt K H a xs) : SqL K H a xs := h.elim (fun z => .inl (.inr z)) .inr
theorem TupAt.sq {K : PySem.W.Frag} {H : Hp} {a : Addr} {xs : List V} (h : TupAt K H a xs) : SqT K H a xs := h.elim (fun z => .inl (.inl z)) .inr
def mkS (x : List Nat) : Str := ⟨x.toArray⟩
theorem mkS_eq (x : Str) : mkS x.cps.toList = x := by cases x; simp [mkS]
mutual
def RV (G : Gv) (H : Hp) : D → V → Prop
  | .non, v => v = .non
  | .bl b, v => v = .bl b
  | .int i, v => v = .int i
  | .str x, v => v = .str (mkS x)
  | .tup ds, v => ∃ a xs, v = .ref a ∧ TupAt G.K H a xs ∧ RVs G H ds xs
  | .ref a, v => v = .ref a
  | .cl ds, v => ∃ a xs, v = .ref a ∧ ClAt G.K H a xs ∧ RVs G H ds xs
def RVs (G : Gv) (H : Hp) : List D → List V → Prop
  | [], xs => xs = []
  | d :: ds, xs => ∃ v vs, xs = v :: vs ∧ RV G H d v ∧ RVs G H ds vs
end
/-- tuples stay -/
def lasts : HO → Bool
  | .tup _ => true
  | .frz _ (.lst _) => true
  | .ext _ => true
  | .xd _ => true
  | _ => false
def Keep (H H' : Hp) : Prop := ∀ a o, lasts o = true → H a = some o → H' a = some o
theorem Keep.refl (H : Hp) : Keep H H := fun _ _ _ h => h
theorem Keep.trans {H H1 H2 : Hp} (a : Keep H H1) (b : Keep H1 H2) : Keep H H2 := fun c xs l h => b c xs l (a c xs l h)
/-- what values lean on -/
def lastT : HO → Bool
  | .tup _ => true
  | .frz _ (.lst _) => true
  | _ => false
def KeepT (H H' : Hp) : Prop := ∀ a o, lastT o = true → H a = some o → H' a = some o
theorem lastT_lasts {o : HO} (h : lastT o = true) : lasts o = true := by
  unfold lastT at h
  split at h
  · rfl
  · rfl
  · cases h
theorem Keep.t {H H' : Hp} (k : Keep H H') : KeepT H H' := fun a o l => k a o (lastT_lasts l)
theorem KeepT.tup {K : PySem.W.Frag} {H H' : Hp} {a : Addr} {xs : List V} (k : KeepT H H') (h : TupAt K H a xs) : TupAt K H' a xs := h.elim (fun z => .inl (k a _ rfl z)) .inr
theorem KeepT.cl {K : PySem.W.Frag} {H H' : Hp} {a : Addr} {xs : List V} (k : KeepT H H') (h : ClAt K H a xs) : ClAt K H' a xs := h.elim (fun ⟨o, z⟩ => .inl ⟨o, k a _ rfl z⟩) .inr
theorem Keep.new {H : Hp} {a : Addr} {o : HO} (h : H a = none) : Keep H (upd H a o) := fun b u _ e => by
  rw [upd_ne (ne_of_none e h)]; exact e
theorem Keep.put {H : Hp} {a : Addr} {o u : HO} (h : H a = some u) (hu : lasts u = false) : Keep H (upd H a o) := fun b x l e => by
  have : b ≠ a := fun z => by subst z; rw [h] at e; rw [Option.some.inj e, l] at hu; cases hu
  rw [upd_ne this]; exact e
section
variable {G : Gv} {H H' : Hp}
mutual
theorem RV.keepT (k : KeepT H H') : ∀ {d : D} {v : V}, RV G H d v → RV G H' d v
  | .non, _, h => by simpa only [RV] using h
  | .bl _, _, h => by simpa only [RV] using h
  | .int _, _, h => by simpa only [RV] using h
  | .str _, _, h => by simpa only [RV] using h
  | .ref _, _, h => by simpa only [RV] using h
  | .tup ds, v, h => by
    simp only [RV] at h ⊢
    obtain ⟨a, xs, e, t, r⟩ := h
    exact ⟨a, xs, e, k.tup t, RVs.keepT k r⟩
  | .cl ds, v, h => by
    simp only [RV] at h ⊢
    obtain ⟨a, xs, e, t, r⟩ := h
    exact ⟨a, xs, e, k.cl t, RVs.keepT k r⟩
theorem RVs.keepT (k : KeepT H H') : ∀ {ds : List D} {vs : List V}, RVs G H ds vs → RVs G H' ds vs
  | [], _, h => by simpa only [RVs] using h
  | d :: ds, _, h => by
    simp only [RVs] at h ⊢
    obtain ⟨v, vs, e, r, rs⟩ := h
    exact ⟨v, vs, e, RV.keepT k r, RVs.keepT k rs⟩
end
theorem RV.keep (k : Keep H H') {d : D} {v : V} (r : RV G H d v) : RV G H' d v := r.keepT k.t
theorem RVs.keep (k : Keep H H') {d : List D} {v : List V} (r : RVs G H d v) : RVs G H' d v := r.keepT k.t
theorem RVs.nil {vs : List V} : RVs G H [] vs ↔ vs = [] := by simp only [RVs]
theorem RVs.cons {d : D} {ds : List D} {vs : List V} : RVs G H (d :: ds) vs ↔ ∃ v r, vs = v :: r ∧ RV G H d v ∧ RVs G H ds r := by simp only [RVs]
theorem RVs.length : ∀ {ds : List D} {vs : List V}, RVs G H ds vs → vs.length = ds.length
  | [], _, h => by rw [RVs.nil] at h; rw [h]; rfl
  | d :: ds, _, h => by
    obtain ⟨v, r, e, _, h2⟩ := RVs.cons.mp h
    rw [e, List.length_cons, List.length_cons, RVs.length h2]
theorem RVs.get : ∀ {ds : List D} {vs : List V} {i : Nat} {d : D}, RVs G H ds vs → ds[i]? = some d → ∃ v, vs[i]? = some v ∧ RV G H d v
  | [], _, i, _, _, e => by simp at e
  | d :: ds, _, 0, _, h, e => by
    obtain ⟨v, r, q, h1, _⟩ := RVs.cons.mp h
    simp at e; subst e; subst q
    exact ⟨v, rfl, h1⟩
  | d :: ds, _, i + 1, _, h, e => by
    obtain ⟨v, r, q, _, h2⟩ := RVs.cons.mp h
    subst q
    obtain ⟨u, e1, e2⟩ := RVs.get h2 (by simpa using e)
    exact ⟨u, by simpa using e1, e2⟩
theorem RVs.append : ∀ {ds es : List D} {vs us : List V}, RVs G H ds vs → RVs G H es us → RVs G H (ds ++ es) (vs ++ us)
  | [], _, _, _, h, g => by rw [RVs.nil] at h; subst h; exact g
  | d :: ds, _, _, _, h, g => by
    obtain ⟨v, r, q, h1, h2⟩ := RVs.cons.mp h
    subst q
    exact RVs.cons.mpr ⟨v, _, rfl, h1, RVs.append h2 g⟩
theorem RVs.set : ∀ {ds : List D} {vs : List V} (i : Nat) {d : D} {v : V}, RVs G H ds vs → RV G H d v → RVs G H (ds.set i d) (vs.set i v)
  | [], _, _, _, _, h, _ => by rw [RVs.nil] at h; subst h; exact RVs.nil.mpr rfl
  | e :: ds, _, 0, _, _, h, g => by
    obtain ⟨v, r, q, h1, h2⟩ := RVs.cons.mp h
    subst q
    exact RVs.cons.mpr ⟨_, _, rfl, g, h2⟩
  | e :: ds, _, i + 1, _, _, h, g => by
    obtain ⟨v, r, q, h1, h2⟩ := RVs.cons.mp h
    subst q
    exact RVs.cons.mpr ⟨_, _, rfl, h1, RVs.set i h2 g⟩
theorem RVs.take : ∀ {ds : List D} {vs : List V} (n : Nat), RVs G H ds vs → RVs G H (ds.take n) (vs.take n)
  | [], _, n, h => by rw [RVs.nil] at h; subst h; simpa using RVs.nil.mpr rfl
  | d :: ds, _, 0, h => by simpa using RVs.nil.mpr rfl
  | d :: ds, _, n + 1, h => by
    obtain ⟨v, r, q, h1, h2⟩ := RVs.cons.mp h
    subst q
    exact RVs.cons.mpr ⟨_, _, rfl, h1, RVs.take n h2⟩
theorem RVs.drop : ∀ {ds : List D} {vs : List V} (n : Nat), RVs G H ds vs → RVs G H (ds.drop n) (vs.drop n)
  | [], _, n, h => by rw [RVs.nil] at h; subst h; simpa using RVs.nil.mpr rfl
  | d :: ds, _, 0, h => h
  | d :: ds, _, n + 1, h => by
    obtain ⟨v, r, q, h1, h2⟩ := RVs.cons.mp h
    subst q
    exact RVs.drop n h2
theorem RVs.reverse : ∀ {ds : List D} {vs : List V}, RVs G H ds vs → RVs G H ds.reverse vs.reverse
  | [], _, h => by rw [RVs.nil] at h; subst h; exact RVs.nil.mpr rfl
  | d :: ds, _, h => by
    obtain ⟨v, r, q, h1, h2⟩ := RVs.cons.mp h
    subst q
    rw [List.reverse_cons, List.reverse_cons]
    exact (RVs.reverse h2).append (RVs.cons.mpr ⟨v, [], rfl, h1, RVs.nil.mpr rfl⟩)
theorem RV.int {i : Int} {v : V} (h : RV G H (.int i) v) : v = .int i := by simpa only [RV] using h
theorem RV.str {x : List Nat} {v : V} (h : RV G H (.str x) v) : v = .str (mkS x) := by simpa only [RV] using h
theorem RV.bl {b : Bool} {v : V} (h : RV G H (.bl b) v) : v = .bl b := by simpa only [RV] using h
theorem RV.non {v : V} (h : RV G H .non v) : v = .non := by simpa only [RV] using h
theorem RV.ref {a : Addr} {v : V} (h : RV G H (.ref a) v) : v = .ref a := by simpa only [RV] using h
theorem RV.tup {ds : List D} {v : V} (h : RV G H (.tup ds) v) : ∃ a xs, v = .ref a ∧ TupAt G.K H a xs ∧ RVs G H ds xs := by simpa only [RV] using h
theorem rv_int {i : Int} : RV G H (.int i) (.int i) := by simp only [RV]
theorem rv_str {x : List Nat} : RV G H (.str x) (.str (mkS x)) := by simp only [RV]
theorem rv_bl {b : Bool} : RV G H (.bl b) (.bl b) := by simp only [RV]
theorem rv_non : RV G H .non .non := by simp only [RV]
theorem rv_ref {a : Addr} : RV G H (.ref a) (.ref a) := by simp only [RV]
theorem rv_tup {ds : List D} {a : Addr} {xs : List V} (t : TupAt G.K H a xs) (r : RVs G H ds xs) : RV G H (.tup ds) (.ref a) := by
  simp only [RV]; exact ⟨a, xs, rfl, t, r⟩
end

/-! ### the heap of data -/
inductive MO where
  /-- a list -/
  | lst (ds : List D)
  /-- a dict; its keys are tuples (t) or numbers and texts -/
  | dic (t : Bool) (kvs : List (D × D))
  /-- an instance of class c, its fields in order -/
  | ins (c : Nat) (fs : List D)
  /-- a caught exception of class c, its fields -/
  | exc (c : Nat) (fs : List D)
abbrev DH := Addr → Option MO
abbrev DS := List (Option D)
def dup (h : DH) (a : Addr) (o : MO) : DH := fun b => if b = a then some o else h b
theorem dup_same {h : DH} {a : Addr} {o : MO} : dup h a o a = some o := if_pos rfl
theorem dup_ne {h : DH} {a b : Addr} {o : MO} (n : b ≠ a) : dup h a o b = h b := if_neg n
/-- less is known -/
def Le (h h' : DH) : Prop := ∀ a o, h a = some o → h' a = some o
theorem Le.refl (h : DH) : Le h h := fun _ _ e => e
theorem Le.trans {h h1 h2 : DH} (a : Le h h1) (b : Le h1 h2) : Le h h2 := fun c o e => b c o (a c o e)
theorem Le.new {h h' : DH} {a : Addr} {o : MO} (l : Le h h') (n : h a = none) : Le h (dup h' a o) := fun b u e => by
  have : b ≠ a := fun z => by subst z; rw [n] at e; cases e
  rw [dup_ne this]; exact l b u e
theorem Le.put {h h' : DH} {a : Addr} {o : MO} (l : Le h h') : Le (dup h a o) (dup h' a o) := fun b u e => by
  unfold dup at e ⊢
  split
  · rename_i z; rw [if_pos z] at e; exact e
  · rename_i z; rw [if_neg z] at e; exact l b u e
theorem Le.at {h h' : DH} {a : Addr} {o : MO} (l : Le h h') (e : h' a = some o) : Le (dup h a o) h' := fun b u q => by
  unfold dup at q
  split at q
  · rename_i z; subst z; rw [← q]; exact e
  · exact l b u q
def LeS (s s' : DS) : Prop := s.length = s'.length ∧ ∀ (i : Nat) (d : D), s[i]? = some (some d) → s'[i]? = some (some d)

def keyV : D → Option Key
  | .int i => some (.inl i)
  | .str x => some (.inr (mkS x))
  | _ => none
def keysV : D → Option (List Key)
  | .tup ds => ds.mapM keyV
  | _ => none
/-- the fields of an exception of class c whose own dict is d -/
def RX (G : Gv) (H : Hp) (c : Nat) (d : Option Addr) (fs : List D) : Prop :=
  fs = [] ∨ ∃ dd xfs, d = some dd ∧ H dd = some (.xd xfs) ∧ xfs.map (·.1) = (G.fn c).take fs.length ∧ RVs G H fs (xfs.map (·.2))
def RO (G : Gv) (H : Hp) (a : Addr) : MO → Prop
  | .lst ds => ∃ xs, H a = some (.lst xs) ∧ RVs G H ds xs
  | .dic false kvs => ∃ kv, H a = some (.dK kv) ∧ Paired (fun (p : D × D) (q : Key × V) => keyV p.1 = some q.1 ∧ RV G H p.2 q.2) kvs kv
  | .dic true kvs => ∃ kv, H a = some (.dT kv) ∧ Paired (fun (p : D × D) (q : List Key × V) => keysV p.1 = some q.1 ∧ RV G H p.2 q.2) kvs kv
  | .ins c ds => ∃ dx fs, H a = some (.ins (G.adr c) dx fs) ∧ fs.map (·.1) = (G.fn c).take ds.length ∧ ds.length ≤ (G.fn c).length ∧ RVs G H ds (fs.map (·.2))
  | .exc c fs => ∃ d, H a = some (.ext (ExcO a (G.adr c) d)) ∧ RX G H c d fs
def RH (G : Gv) (H : Hp) (h : DH) : Prop := ∀ a o, h a = some o → RO G H a o
def RS (G : Gv) (H : Hp) (s : DS) (σ : L2.St) : Prop := s.length = σ.length ∧ ∀ (i : Nat) (d : D), s[i]? = some (some d) → ∃ v, σ[i]? = some (some v) ∧ RV G H d v
end ML

set_option Elab.async false
set_option linter.all false
set_option maxRecDepth 100000
set_option maxHeartbeats 4000000
namespace ML
open PySem PySem.Spec PyProof.Rows L2

section
variable {G : Gv} {H H' : Hp} {h : DH} {a : Addr}
theorem RO.some {o : MO} (r : RO G H a o) : ∃ u, H a = .some u ∧ lastT u = false := by
  cases o with
  | lst ds => obtain ⟨xs, e, _⟩ := r; exact ⟨_, e, rfl⟩
  | dic t kvs => cases t with
    | false => obtain ⟨xs, e, _⟩ := r; exact ⟨_, e, rfl⟩
    | true => obtain ⟨xs, e, _⟩ := r; exact ⟨_, e, rfl⟩
  | ins c ds => obtain ⟨dx, fs, e, _⟩ := r; exact ⟨_, e, rfl⟩
  | exc c fs => obtain ⟨d, e, _⟩ := r; exact ⟨_, e, rfl⟩
theorem RX.keep {c : Nat} {d : Option Addr} {fs : List D} (r : RX G H c d fs) (k : Keep H H') : RX G H' c d fs := by
  rcases r with r | ⟨dd, xfs, e1, e2, e3, r⟩
  · exact .inl r
  · exact .inr ⟨dd, xfs, e1, k dd _ rfl e2, e3, r.keep k⟩
theorem Paired.imp2 {α β : Type} {F F' : α → β → Prop} : ∀ {l₁ : List α} {l₂ : List β}, Paired F l₁ l₂ → (∀ a b, F a b → F' a b) → Paired F' l₁ l₂
  | _, _, .nil, _ => .nil
  | _, _, .cons r t, f => .cons (f _ _ r) (Paired.imp2 t f)
theorem RO.keep {o : MO} (r : RO G H a o) (k : Keep H H') (e : H' a = H a) : RO G H' a o := by
  cases o with
  | lst ds => obtain ⟨xs, q, z⟩ := r; exact ⟨xs, e.trans q, z.keep k⟩
  | dic t kvs => cases t with
    | false => obtain ⟨xs, q, z⟩ := r; exact ⟨xs, e.trans q, Paired.imp2 z fun _ _ y => ⟨y.1, y.2.keep k⟩⟩
    | true => obtain ⟨xs, q, z⟩ := r; exact ⟨xs, e.trans q, Paired.imp2 z fun _ _ y => ⟨y.1, y.2.keep k⟩⟩
  | ins c ds => obtain ⟨dx, fs, q, z1, z2, z3⟩ := r; exact ⟨dx, fs, e.trans q, z1, z2, z3.keep k⟩
  | exc c fs => obtain ⟨d, q, z⟩ := r; exact ⟨d, e.trans q, z.keep k⟩
theorem RH.free (r : RH G H h) (n : H a = none) : h a = none := by
  cases e : h a with
  | none => rfl
  | some o => obtain ⟨u, q, _⟩ := (r a o e).some; rw [n] at q; cases q
theorem RH.le {h' : DH} (r : RH G H h) (l : Le h' h) : RH G H h' := fun a o e => r a o (l a o e)
/-- something that is not tracked here is laid new -/
theorem RH.new {o : HO} (r : RH G H h) (n : H a = none) : RH G (upd H a o) h := fun b u e => by
  obtain ⟨v, q, _⟩ := (r b u e).some
  exact (r b u e).keep (.new n) (upd_ne (ne_of_none q n))
/-- .. and tracked -/
theorem RH.put {o : HO} {m : MO} (r : RH G H h) (k : Keep H (upd H a o)) (z : RO G (upd H a o) a m) : RH G (upd H a o) (dup h a m) := fun b u e => by
  by_cases hb : b = a
  · subst hb; rw [dup_same] at e; cases e; exact z
  · rw [dup_ne hb] at e
    exact (r b u e).keep k (upd_ne hb)
theorem RS.keepT {s : DS} {σ : L2.St} (r : RS G H s σ) (k : KeepT H H') : RS G H' s σ := ⟨r.1, fun i d e => by
  obtain ⟨v, q, z⟩ := r.2 i d e
  exact ⟨v, q, z.keepT k⟩⟩
theorem RS.keep {s : DS} {σ : L2.St} (r : RS G H s σ) (k : Keep H H') : RS G H' s σ := r.keepT k.t
theorem RS.le {s s' : DS} {σ : L2.St} (r : RS G H s σ) (l : LeS s' s) : RS G H s' σ := ⟨l.1.trans r.1, fun i d e => r.2 i d (l.2 i d e)⟩
theorem RS.set {s : DS} {σ : L2.St} (r : RS G H s σ) (i : Nat) {d : D} {v : V} (z : RV G H d v) : RS G H (s.set i (some d)) (σ.set i (some v)) := by
  refine ⟨by rw [List.length_set, List.length_set]; exact r.1, fun j e q => ?_⟩
  by_cases hj : i = j
  · subst hj
    by_cases hl : i < s.length
    · rw [List.getElem?_set_self hl] at q
      cases q
      exact ⟨v, List.getElem?_set_self (by rw [← r.1]; exact hl), z⟩
    · rw [List.getElem?_eq_none (by simpa using hl)] at q; cases q
  · rw [List.getElem?_set_ne hj] at q
    obtain ⟨u, q1, q2⟩ := r.2 j e q
    exact ⟨u, by rw [List.getElem?_set_ne hj]; exact q1, q2⟩
theorem RS.unset {s : DS} {σ : L2.St} (r : RS G H s σ) (i : Nat) (w : Option V) : RS G H (s.set i none) (σ.set i w) := by
  refine ⟨by rw [List.length_set, List.length_set]; exact r.1, fun j e q => ?_⟩
  by_cases hj : i = j
  · subst hj
    by_cases hl : i < s.length
    · rw [List.getElem?_set_self hl] at q; cases q
    · rw [List.getElem?_eq_none (by simpa using hl)] at q; cases q
  · rw [List.getElem?_set_ne hj] at q
    obtain ⟨u, q1, q2⟩ := r.2 j e q
    exact ⟨u, by rw [List.getElem?_set_ne hj]; exact q1, q2⟩
end

/-- from (H, h) to (H', h'): tuples stay; what was there and isn't tracked is as it was, and still isn't tracked -/
structure Mv (H : Hp) (h : DH) (H' : Hp) (h' : DH) : Prop where
  keep : Keep H H'
  fr : ∀ a, H a ≠ none → h a = none → H' a = H a ∧ h' a = none
section
variable {H H1 H2 : Hp} {h h1 h2 : DH}
theorem Mv.refl : Mv H h H h := ⟨.refl H, fun _ _ e => ⟨rfl, e⟩⟩
theorem Mv.trans (a : Mv H h H1 h1) (b : Mv H1 h1 H2 h2) : Mv H h H2 h2 := ⟨a.keep.trans b.keep, fun c n e => by
  obtain ⟨e1, e2⟩ := a.fr c n e
  obtain ⟨e3, e4⟩ := b.fr c (by rw [e1]; exact n) e2
  exact ⟨e3.trans e1, e4⟩⟩
theorem Le.none (l : Le h1 h) {a : Addr} (e : h a = none) : h1 a = none := by
  cases q : h1 a with
  | none => rfl
  | some o => rw [l a o q] at e; cases e
theorem Mv.le (a : Mv H h H1 h1) (l : Le h2 h1) : Mv H h H1 h2 := ⟨a.keep, fun c n e => ⟨(a.fr c n e).1, l.none (a.fr c n e).2⟩⟩
theorem Mv.from (a : Mv H h1 H1 h2) (l : Le h1 h) : Mv H h H1 h2 := ⟨a.keep, fun c n e => a.fr c n (l.none e)⟩
theorem Mv.new {p : Addr} {o : HO} (n : H p = none) : Mv H h (upd H p o) h := ⟨.new n, fun c m e => ⟨upd_ne (fun z => m (by rw [z]; exact n)), e⟩⟩
theorem Mv.newT {p : Addr} {o : HO} {m : MO} (n : H p = none) : Mv H h (upd H p o) (dup h p m) := ⟨.new n, fun c k e => by
  have z : c ≠ p := fun z => k (by rw [z]; exact n)
  exact ⟨upd_ne z, (dup_ne z).trans e⟩⟩
theorem Mv.put {p : Addr} {o : HO} {m m' : MO} (t : h p = some m) (k : Keep H (upd H p o)) : Mv H h (upd H p o) (dup h p m') := ⟨k, fun c n e => by
  have z : c ≠ p := fun z => by rw [z, t] at e; cases e
  exact ⟨upd_ne z, (dup_ne z).trans e⟩⟩
end

/-! ### readings over data -/
abbrev DQ := D → DH → Prop
abbrev DX := Nat → List D → DH → Prop
abbrev DW := Nat → List D → DS → DH → Prop
abbrev DTE := DS → DH → DQ → Prop
abbrev DTA := DS → DH → (List D → DH → Prop) → Prop
abbrev DTT := DS → DH → (Bool → DH → Prop) → Prop
structure DEnds where
  nx : DS → DH → Prop
  rt : DQ
  bk : DS → DH → Prop := fun _ _ => False
  ct : DS → DH → Prop := fun _ _ => False
abbrev DTS := DEnds → DS → DH → Prop
abbrev DSp := List D → DH → DQ → DX → Prop
abbrev Calls := Nat → DSp

section
variable (G : Gv)
def Lo (H : Hp) (h : DH) (q : DQ) (Q : VK) : Prop := ∀ d h' v H', Mv H h H' h' → RH G H' h' → RV G H' d v → q d h' → Q v H'
def LoA (H : Hp) (h : DH) (q : List D → DH → Prop) (Q : List V → Hp → Prop) : Prop := ∀ ds h' vs H', Mv H h H' h' → RH G H' h' → RVs G H' ds vs → q ds h' → Q vs H'
def LoT (H : Hp) (h : DH) (q : Bool → DH → Prop) (Q : Bool → Hp → Prop) : Prop := ∀ b h' H', Mv H h H' h' → RH G H' h' → q b h' → Q b H'
def LoN (H : Hp) (h : DH) (q : DS → DH → Prop) (Q : L2.St → Hp → Prop) : Prop := ∀ s h' σ H', Mv H h H' h' → RS G H' s σ → RH G H' h' → q s h' → Q σ H'
def L (t : DTE) : TE := fun σ H Q => ∃ s h q, RS G H s σ ∧ RH G H h ∧ t s h q ∧ Lo G H h q Q
def LA (t : DTA) : TA := fun σ H Q => ∃ s h q, RS G H s σ ∧ RH G H h ∧ t s h q ∧ LoA G H h q Q
def LT (t : DTT) : TT := fun σ H Q => ∃ s h q, RS G H s σ ∧ RH G H h ∧ t s h q ∧ LoT G H h q Q
structure LoE (H : Hp) (h : DH) (E : DEnds) (F : Ends) : Prop where
  nx : LoN G H h E.nx F.nx
  rt : Lo G H h E.rt F.rt
  bk : LoN G H h E.bk F.bk
  ct : LoN G H h E.ct F.ct
def LS (t : DTS) : TS := fun F σ H => ∃ s h E, RS G H s σ ∧ RH G H h ∧ t E s h ∧ LoE G H h E F
def LW (w : DW) : WX := fun cls d σ H => ∃ c fs s h, cls = .ref (G.adr c) ∧ RX G H c d fs ∧ RS G H s σ ∧ RH G H h ∧ w c fs s h
def LX (H : Hp) (x : DX) (E : XK) : Prop := ∀ c fs d h' H', KeepT H H' → RH G H' h' → RX G H' c d fs → x c fs h' → E (.ref (G.adr c)) d H'
def LSp (sp : DSp) : Sp := fun vs H Q E => ∃ ds h q x, RVs G H ds vs ∧ RH G H h ∧ sp ds h q x ∧ Lo G H h q Q ∧ LX G H x E
end
section
variable {G : Gv} {H H' : Hp} {h h' : DH}
theorem Lo.keep {q : DQ} {Q : VK} (l : Lo G H h q Q) (k : Mv H h H' h') : Lo G H' h' q Q := fun d h2 v H2 k2 => l d h2 v H2 (k.trans k2)
theorem LoA.keep {q : List D → DH → Prop} {Q : List V → Hp → Prop} (l : LoA G H h q Q) (k : Mv H h H' h') : LoA G H' h' q Q := fun d h2 v H2 k2 => l d h2 v H2 (k.trans k2)
theorem LoT.keep {q : Bool → DH → Prop} {Q : Bool → Hp → Prop} (l : LoT G H h q Q) (k : Mv H h H' h') : LoT G H' h' q Q := fun d h2 H2 k2 => l d h2 H2 (k.trans k2)
theorem LoN.keep {q : DS → DH → Prop} {Q : L2.St → Hp → Prop} (l : LoN G H h q Q) (k : Mv H h H' h') : LoN G H' h' q Q := fun s h2 σ H2 k2 => l s h2 σ H2 (k.trans k2)
theorem LoE.keep {E : DEnds} {F : Ends} (l : LoE G H h E F) (k : Mv H h H' h') : LoE G H' h' E F := ⟨l.nx.keep k, l.rt.keep k, l.bk.keep k, l.ct.keep k⟩
theorem LX.keep {x : DX} {E : XK} (l : LX G H x E) (k : Keep H H') : LX G H' x E := fun c fs d h2 H2 k2 => l c fs d h2 H2 fun a o l e => k2 a o l (k.t a o l e)
end
abbrev DE (G : Gv) (X : Cx) (e : Expr) (t : DTE) : Prop := PE X e (L G t)
abbrev DA (G : Gv) (X : Cx) (es : List Expr) (t : DTA) : Prop := PA X es (LA G t)
abbrev DT (G : Gv) (X : Cx) (e : Expr) (t : DTT) : Prop := PT X e (LT G t)
abbrev DPW (G : Gv) (X : Cx) (e : Expr) (t : DTT) : Prop := PW X e (LT G t)
abbrev DP (G : Gv) (X : Cx) (st : Stmt) (t : DTS) : Prop := PS X st (LS G t)
abbrev DPs (G : Gv) (X : Cx) (st : List Stmt) (t : DTS) : Prop := PSs X st (LS G t)
section
variable {X : Cx}
theorem imE {e : Expr} {t t' : TE} (h : PE X e t) (i : ∀ σ H Q, t' σ H Q → t σ H Q) : PE X e t' := ⟨fun pins s σ H Q I hw => h.run pins s σ H Q I (i σ H Q hw)⟩
theorem imA {e : List Expr} {t t' : TA} (h : PA X e t) (i : ∀ σ H Q, t' σ H Q → t σ H Q) : PA X e t' := ⟨fun pos pins s σ H Q I hw => h.run pos pins s σ H Q I (i σ H Q hw)⟩
theorem imT {e : Expr} {t t' : TT} (h : PT X e t) (i : ∀ σ H Q, t' σ H Q → t σ H Q) : PT X e t' := ⟨fun pins s σ H Q I hw => h.run pins s σ H Q I (i σ H Q hw)⟩
theorem imW {e : Expr} {t t' : TT} (h : PW X e t) (i : ∀ σ H Q, t' σ H Q → t σ H Q) : PW X e t' := ⟨fun wh pins s σ H Q I hw => h.run wh pins s σ H Q I (i σ H Q hw)⟩
theorem imS {e : Stmt} {t t' : TS} (h : PS X e t) (i : ∀ D σ H, t' D σ H → t D σ H) : PS X e t' := ⟨fun pins s σ H D I hw => h.run pins s σ H D I (i D σ H hw)⟩
theorem imSs {e : List Stmt} {t t' : TS} (h : PSs X e t) (i : ∀ D σ H, t' D σ H → t D σ H) : PSs X e t' := ⟨fun pins s σ H D I hw => h.run pins s σ H D I (i D σ H hw)⟩
end

/-! ### names, constants -/
def dVar (i : Nat) : DTE := fun s h q => ∃ d, s[i]? = some (some d) ∧ q d h
def dC (d : D) : DTE := fun _ h q => q d h
section
variable {G : Gv} {X : Cx}
theorem de_var (i : Nat) {x : Str} {pos : Pos} (hN : X.N[i]? = some x := by rfl) (hv : Vis X.env.scope x := by first | exact Or.inl rfl | exact Or.inr (Or.inl rfl) | exact Or.inr (Or.inr rfl)) (hd : (x == ("__debug__" : Str)) = false := by decide)
    (hcd : (x == ("__classdict__" : Str)) = false := by decide) : DE G X (.Name x pos) (dVar i) := imE (pe_var hN hv hd hcd) fun σ H Q ⟨s, h, q, rs, rh, ⟨d, e, t⟩, lo⟩ => by
  obtain ⟨v, e2, r⟩ := rs.2 i d e
  exact ⟨v, e2, lo d h v H .refl rh r t⟩
theorem de_c {e : Expr} {v : V} {d : D} (h : PE X e (tC v)) (r : ∀ H, RV G H d v) : DE G X e (dC d) := imE h fun σ H Q ⟨s, h, q, rs, rh, t, lo⟩ => lo d h v H .refl rh (r H) t
theorem de_int {i : Int} {j pos} : DE G X (.Constant (.int i) j pos) (dC (.int i)) := de_c pe_int fun _ => rv_int
theorem de_bl {b : Bool} {j pos} : DE G X (.Constant (.bool b) j pos) (dC (.bl b)) := de_c pe_bl fun _ => rv_bl
theorem de_non {j pos} : DE G X (.Constant .none j pos) (dC .non) := de_c pe_non fun _ => rv_non
theorem de_str {z : Str} {x : List Nat} {j pos} (e : z = mkS x := by first | rfl | decide +kernel) : DE G X (.Constant (.str z) j pos) (dC (.str x)) := de_c pe_str fun H => by rw [e]; exact rv_str
theorem de_glob {x : Str} {v : V} {d : D} {u : Value} {pos : Pos} (hm : X.mg x = some u) (ru : RelV v u) (r : ∀ H, RV G H d v) (hg : Gl X x := by rfl) (hd : (x == ("__debug__" : Str)) = false := by decide) : DE G X (.Name x pos) (dC d) := de_c (pe_glob hg hm ru hd) r
end

/-! ### operators by values -/
/-- the rule r of values is met by the rule rd of data -/
def DR2 (G : Gv) (r : R2) (rd : D → D → DH → DQ → Prop) : Prop :=
  ∀ x y vx vy H h q Q, RV G H x vx → RV G H y vy → RH G H h → rd x y h q → Lo G H h q Q → r vx vy H Q
def dOp (rd : D → D → DH → DQ → Prop) (ta tb : DTE) : DTE := fun s h q => ta s h fun x h1 => tb s h1 fun y h2 => rd x y h2 q
theorem op_low {G : Gv} {r : R2} {rd : D → D → DH → DQ → Prop} (hr : DR2 G r rd) {ta tb : DTE} {σ : L2.St} {H : Hp} {Q : VK} (h : L G (dOp rd ta tb) σ H Q) : tOp r (L G ta) (L G tb) σ H Q := by
  obtain ⟨s, h, q, rs, rh, t, lo⟩ := h
  refine ⟨s, h, _, rs, rh, t, fun x h1 vx H1 k1 rh1 rx t1 => ?_⟩
  refine ⟨s, h1, _, rs.keep k1.keep, rh1, t1, fun y h2 vy H2 k2 rh2 ry t2 => ?_⟩
  exact hr x y vx vy H2 h2 q Q (rx.keep k2.keep) ry rh2 t2 (lo.keep (k1.trans k2))
def DUn (G : Gv) (r : V → Hp → VK → Prop) (rd : D → DH → DQ → Prop) : Prop :=
  ∀ x vx H h q Q, RV G H x vx → RH G H h → rd x h q → Lo G H h q Q → r vx H Q
def dUn (rd : D → DH → DQ → Prop) (ta : DTE) : DTE := fun s h q => ta s h fun x h1 => rd x h1 q
theorem un_low {G : Gv} {r : V → Hp → VK → Prop} {rd : D → DH → DQ → Prop} (hr : DUn G r rd) {ta : DTE} {σ : L2.St} {H : Hp} {Q : VK} (h : L G (dUn rd ta) σ H Q) : L G ta σ H (fun x H1 => r x H1 Q) := by
  obtain ⟨s, h, q, rs, rh, t, lo⟩ := h
  exact ⟨s, h, _, rs, rh, t, fun x h1 vx H1 k1 rh1 rx t1 => hr x vx H1 h1 q Q rx rh1 t1 (lo.keep k1)⟩
section
variable {G : Gv} {X : Cx} {a b : Expr} {ta tb : DTE} {pos : Pos}
theorem de_bin {op : Operator} {r : R2} {rd : D → D → DH → DQ → Prop} (ho : OpR X (binaryOp op) r) (hr : DR2 G r rd) (ha : DE G X a ta) (hb : DE G X b tb) : DE G X (.BinOp a op b pos) (dOp rd ta tb) :=
  imE (pe_op ho ha hb) fun σ H Q h => op_low hr h
theorem de_cmp {op : CmpOp} {r : R2} {rd : D → D → DH → DQ → Prop} (ho : OpR X (compareOp op) r) (hr : DR2 G r rd) (ha : DE G X a ta) (hb : DE G X b tb) (hm : behindInMarks op b = false) : DE G X (.Compare a [op] [b] pos) (dOp rd ta tb) :=
  imE (pe_cmpR ho ha hb hm) fun σ H Q h => op_low hr h
/-- a value's truth where it is a bool -/
def dTest (t : DTE) : DTT := fun s h q => t s h fun x h' => ∃ k, x = .bl k ∧ q k h'
theorem test_low {G : Gv} {t : DTE} {u : TE} (hu : ∀ σ H Q, L G t σ H Q → u σ H Q) {σ : L2.St} {H : Hp} {Q : Bool → Hp → Prop} (h : LT G (dTest t) σ H Q) : tTest u σ H Q := by
  obtain ⟨s, h, q, rs, rh, t, lo⟩ := h
  refine hu _ _ _ ⟨s, h, _, rs, rh, t, fun x h1 vx H1 k1 rh1 rx ⟨k, e, t1⟩ => ?_⟩
  subst e
  exact ⟨k, rx.bl, lo k h1 H1 k1 rh1 t1⟩
theorem dt_cmp {op : CmpOp} {r : R2} {rd : D → D → DH → DQ → Prop} (ho : OpR X (compareOp op) r) (hr : DR2 G r rd) (ha : DE G X a ta) (hb : DE G X b tb) (hm : behindInMarks op b = false) : DT G X (.Compare a [op] [b] pos) (dTest (dOp rd ta tb)) :=
  imT (pt_cmpR ho ha hb hm) fun σ H Q h => test_low (fun _ _ _ z => op_low hr z) h
/-- a comparison as a test -/
theorem isTrue_cmp {M : Model} {A : Around} {env : Env} {l r : Expr} {op : CmpOp} {pos : Pos} {whole : Sem Value} {Q : Bool → Shared → Prop} {E : Value → Shared → Prop} {s : Shared}
    (h : wpAny M A (eval (.Compare l [op] [r] pos) env) (fun c s' => wpAny M A (truthy c) Q E s') E s) (hm : behindInMarks op r = false) : wpAny M A (isTrue (.Compare l [op] [r] pos) env whole) Q E s := fun Γ p hΓ => by
  have g := h Γ p hΓ
  simp only [eval_Compare1, isTrue_Compare1, markedBehindIn_of_false hm, Sem.wp_bind', Sem.wp_holding, Sem.wp_cmd_standAt, Sem.wp_operate] at g ⊢
  exact Sem.wp_mono M Γ _ (fun a p₁ s₁ h₁ => Sem.wp_mono M Γ _ (fun b _ s₂ h₂ => Sem.wp_mono M Γ _ (fun c p₃ s₃ h₃ => h₃ Γ p₃ hΓ)
    (fun _ _ _ h' => h') _ _ h₂) (fun _ _ _ h' => h') _ _ h₁) (fun _ _ _ h' => h') _ _ g
theorem dt_cv {t : DTE} {op : CmpOp} (h : DE G X (.Compare a [op] [b] pos) t) (hm : behindInMarks op b = false := by first | exact nobehind _ (by decide) (by decide) | rfl) : DT G X (.Compare a [op] [b] pos) (dTest t) := by
  refine ⟨fun pins s σ H Q I hw => ?_⟩
  have hw2 : tTest (L G t) σ H Q := test_low (fun _ _ _ z => z) hw
  refine isTrue_cmp (thn (h.run pins s σ H (fun x H' => ∃ k, x = .bl k ∧ Q k H') I hw2) fun v s1 ⟨x, H1, I1, r1, k, e, q1⟩ => ?_) hm
  subst e
  cases r1
  exact wpAny_truthy_bool ⟨H1, I1, q1⟩
theorem dt_val {e : Expr} {t : DTE} (h : DE G X e t) (he : ∀ whole, isTrue e X.env whole = (do let v ← whole; standAt e.pos; holding [v] (truthy v)) := by intro _; rfl) : DT G X e (dTest t) :=
  imT (pt_val h he) fun σ H Q h => test_low (fun _ _ _ z => z) h
end

/-! ### and, or, not -/
def dAnd (t u : DTT) : DTT := fun s h q => t s h fun c h1 => if c = true then u s h1 q else q false h1
def dOr (t u : DTT) : DTT := fun s h q => t s h fun c h1 => if c = true then q true h1 else u s h1 q
def dNot (t : DTT) : DTT := fun s h q => t s h fun c h1 => q (!c) h1
def dAndV (ta tb : DTE) : DTE := fun s h q => ta s h fun x h1 => ∃ c, x = .bl c ∧ if c = true then tb s h1 q else q (.bl false) h1
def dOrV (ta tb : DTE) : DTE := fun s h q => ta s h fun x h1 => ∃ c, x = .bl c ∧ if c = true then q (.bl true) h1 else tb s h1 q
def dNotV (ta : DTE) : DTE := fun s h q => ta s h fun x h1 => ∃ c, x = .bl c ∧ q (.bl (!c)) h1
def dIfE (t : DTT) (ta tb : DTE) : DTE := fun s h q => t s h fun c h1 => if c = true then ta s h1 q else tb s h1 q
section
variable {G : Gv} {X : Cx} {a b c : Expr} {ta tb : DTE} {tt tu : DTT} {rest : List Expr} {pos : Pos}
theorem dw_and1 (ha : DT G X a tt) : DPW G X (.BoolOp .And [a] pos) tt := pw_and1 ha
theorem dw_or1 (ha : DT G X a tt) : DPW G X (.BoolOp .Or [a] pos) tt := pw_or1 ha
theorem dw_and (ha : DT G X a tt) (hb : DPW G X (.BoolOp .And (b :: rest) pos) tu) : DPW G X (.BoolOp .And (a :: b :: rest) pos) (dAnd tt tu) := imW (pw_and ha hb) fun σ H Q ⟨s, h, q, rs, rh, t, lo⟩ => by
  refine ⟨s, h, _, rs, rh, t, fun c h1 H1 k1 rh1 t1 => ?_⟩
  cases c with
  | true => exact ⟨s, h1, q, rs.keep k1.keep, rh1, t1, lo.keep k1⟩
  | false => exact lo _ _ _ k1 rh1 t1
theorem dw_or (ha : DT G X a tt) (hb : DPW G X (.BoolOp .Or (b :: rest) pos) tu) : DPW G X (.BoolOp .Or (a :: b :: rest) pos) (dOr tt tu) := imW (pw_or ha hb) fun σ H Q ⟨s, h, q, rs, rh, t, lo⟩ => by
  refine ⟨s, h, _, rs, rh, t, fun c h1 H1 k1 rh1 t1 => ?_⟩
  cases c with
  | true => exact lo _ _ _ k1 rh1 t1
  | false => exact ⟨s, h1, q, rs.keep k1.keep, rh1, t1, lo.keep k1⟩
theorem dt_w {e : Expr} (h : DPW G X e tt) : DT G X e tt := h.pt
theorem dt_not (ha : DT G X a tt) : DT G X (.UnaryOp .Not a pos) (dNot tt) := imT (pt_not ha) fun σ H Q ⟨s, h, q, rs, rh, t, lo⟩ =>
  ⟨s, h, _, rs, rh, t, fun c h1 H1 k1 rh1 t1 => lo _ _ _ k1 rh1 t1⟩
theorem de_one {op} (h : DE G X a ta) : DE G X (.BoolOp op [a] pos) ta := pe_one h
theorem de_and (ha : DE G X a ta) (hb : DE G X (.BoolOp .And (b :: rest) pos) tb) : DE G X (.BoolOp .And (a :: b :: rest) pos) (dAndV ta tb) := imE (pe_and ha hb) fun σ H Q ⟨s, h, q, rs, rh, t, lo⟩ => by
  refine ⟨s, h, _, rs, rh, t, fun x h1 vx H1 k1 rh1 rx ⟨c, e, t1⟩ => ?_⟩
  subst e
  refine ⟨c, rx.bl, ?_⟩
  cases c with
  | true => exact ⟨s, h1, q, rs.keep k1.keep, rh1, t1, lo.keep k1⟩
  | false => exact lo _ _ _ _ k1 rh1 rv_bl t1
theorem de_or (ha : DE G X a ta) (hb : DE G X (.BoolOp .Or (b :: rest) pos) tb) : DE G X (.BoolOp .Or (a :: b :: rest) pos) (dOrV ta tb) := imE (pe_or ha hb) fun σ H Q ⟨s, h, q, rs, rh, t, lo⟩ => by
  refine ⟨s, h, _, rs, rh, t, fun x h1 vx H1 k1 rh1 rx ⟨c, e, t1⟩ => ?_⟩
  subst e
  refine ⟨c, rx.bl, ?_⟩
  cases c with
  | true => exact lo _ _ _ _ k1 rh1 rv_bl t1
  | false => exact ⟨s, h1, q, rs.keep k1.keep, rh1, t1, lo.keep k1⟩
theorem de_not (ha : DE G X a ta) : DE G X (.UnaryOp .Not a pos) (dNotV ta) := imE (pe_not ha) fun σ H Q ⟨s, h, q, rs, rh, t, lo⟩ =>
  ⟨s, h, _, rs, rh, t, fun x h1 vx H1 k1 rh1 rx ⟨c, e, t1⟩ => by subst e; exact ⟨c, rx.bl, lo _ _ _ _ k1 rh1 rv_bl t1⟩⟩
theorem de_ifE (hc : DT G X c tt) (ha : DE G X a ta) (hb : DE G X b tb) : DE G X (.IfExp c a b pos) (dIfE tt ta tb) := imE (pe_ifExp hc ha hb) fun σ H Q ⟨s, h, q, rs, rh, t, lo⟩ => by
  refine ⟨s, h, _, rs, rh, t, fun c h1 H1 k1 rh1 t1 => ?_⟩
  cases c with
  | true => exact ⟨s, h1, q, rs.keep k1.keep, rh1, t1, lo.keep k1⟩
  | false => exact ⟨s, h1, q, rs.keep k1.keep, rh1, t1, lo.keep k1⟩
end

/-! ### lists of arguments, displays -/
def dNil : DTA := fun _ h q => q [] h
def dCons (ta : DTE) (tr : DTA) : DTA := fun s h q => ta s h fun x h1 => tr s h1 fun xs h2 => q (x :: xs) h2
def dTup (t : DTA) : DTE := fun s h q => t s h fun xs h1 => xs.length ≤ sizeLine ∧ q (.tup xs) h1
def dLst (t : DTA) : DTE := fun s h q => t s h fun xs h1 => xs.length ≤ sizeLine ∧ ∀ p, h1 p = none → q (.ref p) (dup h1 p (.lst xs))
section
variable {G : Gv} {X : Cx} {e : Expr} {es : List Expr} {ta : DTE} {t : DTA} {pos : Pos}
theorem da_nil : DA G X [] dNil := imA pa_nil fun σ H Q ⟨s, h, q, rs, rh, t, lo⟩ => lo [] h [] H .refl rh (RVs.nil.mpr rfl) t
theorem da_cons (ha : DE G X e ta) (hr : DA G X es t) (hs : starEach (e :: es) X.env = (false, eval e X.env) :: starEach es X.env := by rfl) : DA G X (e :: es) (dCons ta t) := imA (pa_cons ha hr hs) fun σ H Q ⟨s, h, q, rs, rh, t, lo⟩ => by
  refine ⟨s, h, _, rs, rh, t, fun x h1 vx H1 k1 rh1 rx t1 => ?_⟩
  refine ⟨s, h1, _, rs.keep k1.keep, rh1, t1, fun ys h2 vs H2 k2 rh2 ry t2 => ?_⟩
  exact lo _ _ _ _ (k1.trans k2) rh2 (RVs.cons.mpr ⟨_, _, rfl, rx.keep k2.keep, ry⟩) t2
theorem de_tup {x1} (ha : DA G X es t) : DE G X (.Tuple es x1 pos) (dTup t) := imE (pe_tup ha) fun σ H Q ⟨s, h, q, rs, rh, t, lo⟩ => by
  refine ⟨s, h, _, rs, rh, t, fun xs h1 vs H1 k1 rh1 rx ⟨z, t1⟩ => ⟨by rw [rx.length]; exact z, fun p hp => ?_⟩⟩
  exact lo _ _ _ _ (k1.trans (.new hp)) (rh1.new hp) (rv_tup (.inl upd_same) (rx.keep (.new hp))) t1
theorem de_lst (ha : DA G X es t) : DE G X (.List es pos) (dLst t) := imE (pe_lst ha) fun σ H Q ⟨s, h, q, rs, rh, t, lo⟩ => by
  refine ⟨s, h, _, rs, rh, t, fun xs h1 vs H1 k1 rh1 rx ⟨z, t1⟩ => ⟨by rw [rx.length]; exact z, fun p hp => ?_⟩⟩
  exact lo _ _ _ _ (k1.trans (.newT hp)) (rh1.put (m := .lst xs) (.new hp) ⟨vs, upd_same, rx.keep (.new hp)⟩) rv_ref (t1 p (rh1.free hp))
end

/-! ### statements -/
def dNext : DTS := fun E s h => E.nx s h
def dSeq (t u : DTS) : DTS := fun E s h => t { E with nx := u E } s h
def dBreak : DTS := fun E s h => E.bk s h
def dCont : DTS := fun E s h => E.ct s h
def dDrop (te : DTE) : DTS := fun E s h => te s h fun _ h1 => E.nx s h1
def dRet (te : DTE) : DTS := fun E s h => te s h E.rt
def dRetN : DTS := fun E _ h => E.rt .non h
def dIf (c : DTT) (t u : DTS) : DTS := fun E s h => c s h fun b h1 => if b = true then t E s h1 else u E s h1
def dNever : DTS := fun _ _ _ => False
section
variable {G : Gv} {X : Cx} {st : Stmt} {rest a b : List Stmt} {t u : DTS} {e c : Expr} {te : DTE} {tc : DTT} {pos : Pos}
theorem dss_nil : DPs G X [] dNext := imSs pss_nil fun F σ H ⟨s, h, E, rs, rh, t, lo⟩ => lo.nx s h σ H .refl rs rh t
theorem seq_low {G : Gv} {t u : DTS} {F : Ends} {σ : L2.St} {H : Hp} (h : LS G (dSeq t u) F σ H) : tSeq (LS G t) (LS G u) F σ H := by
  obtain ⟨s, h, E, rs, rh, t, lo⟩ := h
  exact ⟨s, h, _, rs, rh, t, ⟨fun s1 h1 σ1 H1 k1 rs1 rh1 t1 => ⟨s1, h1, E, rs1, rh1, t1, lo.keep k1⟩, lo.rt, lo.bk, lo.ct⟩⟩
theorem dss_cons (h1 : DP G X st t) (h2 : DPs G X rest u) : DPs G X (st :: rest) (dSeq t u) := imSs (pss_cons h1 h2) fun F σ H h => seq_low h
theorem dss_one (h1 : DP G X st t) : DPs G X [st] t := pss_one h1
theorem dp_pass : DP G X (.Pass pos) dNext := imS ps_pass fun F σ H ⟨s, h, E, rs, rh, t, lo⟩ => lo.nx s h σ H .refl rs rh t
theorem dp_break : DP G X (.Break pos) dBreak := imS ps_break fun F σ H ⟨s, h, E, rs, rh, t, lo⟩ => lo.bk s h σ H .refl rs rh t
theorem dp_continue : DP G X (.Continue pos) dCont := imS ps_continue fun F σ H ⟨s, h, E, rs, rh, t, lo⟩ => lo.ct s h σ H .refl rs rh t
theorem dp_expr (he : DE G X e te) (hs : swapsWith e none pos.line X.env = pure false := by rfl) : DP G X (.Expr e pos) (dDrop te) := imS (ps_expr he hs) fun F σ H ⟨s, h, E, rs, rh, t, lo⟩ =>
  ⟨s, h, _, rs, rh, t, fun d h1 v H1 k1 rh1 r1 t1 => lo.nx s h1 σ H1 k1 (rs.keep k1.keep) rh1 t1⟩
theorem dp_ret (he : DE G X e te) : DP G X (.Return (some e) pos) (dRet te) := imS (ps_ret he) fun F σ H ⟨s, h, E, rs, rh, t, lo⟩ => ⟨s, h, _, rs, rh, t, lo.rt⟩
theorem dp_retN : DP G X (.Return none pos) dRetN := imS ps_retN fun F σ H ⟨s, h, E, rs, rh, t, lo⟩ => lo.rt .non h .non H .refl rh rv_non t
theorem dp_if (hc : DT G X c tc) (ha : DPs G X a t) (hb : DPs G X b u) : DP G X (.If c a b pos) (dIf tc t u) := imS (ps_if hc ha hb) fun F σ H ⟨s, h, E, rs, rh, t, lo⟩ => by
  refine ⟨s, h, _, rs, rh, t, fun b h1 H1 k1 rh1 t1 => ?_⟩
  cases b with
  | true => exact ⟨s, h1, E, rs.keep k1.keep, rh1, t1, lo.keep k1⟩
  | false => exact ⟨s, h1, E, rs.keep k1.keep, rh1, t1, lo.keep k1⟩
theorem dp_never : DP G X st dNever := imS ps_never fun F σ H ⟨s, h, E, rs, rh, t, lo⟩ => t.elim
theorem dss_never {sts : List Stmt} : DPs G X sts dNever := imSs pss_never fun F σ H ⟨s, h, E, rs, rh, t, lo⟩ => t.elim
end

/-! ### targets -/
abbrev DTG := D → DS → DH → (DS → DH → Prop) → Prop
abbrev DTGs := List D → DS → DH → (DS → DH → Prop) → Prop
def LG (G : Gv) (g : DTG) : TG := fun v σ H Q => ∃ d s h q, RV G H d v ∧ RS G H s σ ∧ RH G H h ∧ g d s h q ∧ LoN G H h q Q
def LGs (G : Gv) (g : DTGs) : TGs := fun vs σ H Q => ∃ ds s h q, RVs G H ds vs ∧ RS G H s σ ∧ RH G H h ∧ g ds s h q ∧ LoN G H h q Q
abbrev DG (G : Gv) (X : Cx) (e : Expr) (g : DTG) : Prop := PG X e (LG G g)
abbrev DGs (G : Gv) (X : Cx) (e : List Expr) (g : DTGs) : Prop := PGs X e (LGs G g)
def gSet (i : Nat) : DTG := fun d s h q => q (s.set i (some d)) h
def gsNil : DTGs := fun ds s h q => ds = [] ∧ q s h
def gsCons (t : DTG) (u : DTGs) : DTGs := fun ds s h q => ∃ d r, ds = d :: r ∧ t d s h fun s' h' => u r s' h' q
def gUn (n : Nat) (t : DTGs) : DTG := fun d s h q => ∃ ds, d = .tup ds ∧ ds.length = n ∧ t ds s h q
def dAsg (te : DTE) (g : DTG) : DTS := fun E s h => te s h fun x h1 => g x s h1 E.nx
section
variable {G : Gv} {X : Cx} {pos : Pos}
theorem imG {e : Expr} {t t' : TG} (h : PG X e t) (i : ∀ v σ H Q, t' v σ H Q → t v σ H Q) : PG X e t' := ⟨fun pins s σ H v u Q I r hw => h.run pins s σ H v u Q I r (i v σ H Q hw)⟩
theorem imGs {e : List Expr} {t t' : TGs} (h : PGs X e t) (i : ∀ v σ H Q, t' v σ H Q → t v σ H Q) : PGs X e t' := ⟨fun pins s σ H v u Q I r hw => h.run pins s σ H v u Q I r (i v σ H Q hw)⟩
theorem dg_name {i : Nat} {x : Str} (hN : X.N.Nodup) (hi : X.N[i]? = some x := by rfl) (hx : Loc X.env.scope x := by first | exact .inl rfl | exact .inr rfl) (hf : X.fn x = true ∨ X.env.scope.names.lookup x = some .local := by first | exact .inl rfl | exact .inr rfl | assumption) : DG G X (.Name x pos) (gSet i) :=
  imG (pg_name hN hi hx hf) fun v σ H Q ⟨d, s, h, q, rv, rs, rh, t, lo⟩ => lo _ _ _ _ .refl (rs.set i rv) rh t
theorem dgs_nil : DGs G X [] gsNil := imGs pgs_nil fun v σ H Q ⟨d, s, h, q, rv, rs, rh, ⟨e, t⟩, lo⟩ => by
  subst e
  exact ⟨RVs.nil.mp rv, lo _ _ _ _ .refl rs rh t⟩
theorem dgs_cons {e : Expr} {es : List Expr} {t : DTG} {u : DTGs} (h1 : DG G X e t) (h2 : DGs G X es u)
    (hs : (assignEach (e :: es) X.env).map (·.2) = assign e X.env :: (assignEach es X.env).map (·.2) := by rfl) : DGs G X (e :: es) (gsCons t u) := imGs (pgs_cons h1 h2 hs) fun vs σ H Q ⟨ds, s, h, q, rv, rs, rh, ⟨d, r, e, t⟩, lo⟩ => by
  subst e
  obtain ⟨v, vr, e1, r1, r2⟩ := RVs.cons.mp rv
  refine ⟨v, vr, e1, d, s, h, _, r1, rs, rh, t, fun s1 h1 σ1 H1 k1 rs1 rh1 t1 => ?_⟩
  exact ⟨r, s1, h1, q, r2.keep k1.keep, rs1, rh1, t1, lo.keep k1⟩
theorem dg_tup {es : List Expr} {k : Nat} {t : DTGs} {n : Nat} (hK : X.K = G.K) (hc : X.calm = true) (h : DGs G X es t)
    (hn : (assignEach es X.env).length = n := by rfl) (hst : (assignEach es X.env).findIdx? (·.1) = none := by rfl) : DG G X (.Tuple es k pos) (gUn n t) := imG (pg_tup hc h hn hst) fun v σ H Q ⟨d, s, h, q, rv, rs, rh, ⟨ds, e, hl, t⟩, lo⟩ => by
  subst e
  obtain ⟨a, xs, e1, ht, r⟩ := rv.tup
  exact ⟨a, xs, e1, by rw [hK]; exact ht.sq, by rw [r.length]; exact hl, ds, s, h, q, r, rs, rh, t, lo⟩
theorem dp_asg {tg e : Expr} {te : DTE} {g : DTG} (he : DE G X e te) (hg : DG G X tg g) (hs : swapsWithSole [tg] e pos.line X.env = pure false := by rfl) (hw : swappedStores [tg] e X.env = pure none := by rfl)
    (h1 : (assignEach [tg] X.env).map (·.2) = [assign tg X.env] := by rfl) : DP G X (.Assign [tg] e pos) (dAsg te g) := imS (ps_asg he hg hs hw h1) fun F σ H ⟨s, h, E, rs, rh, t, lo⟩ =>
  ⟨s, h, _, rs, rh, t, fun x h1 v H1 k1 rh1 rx t1 => ⟨x, s, h1, E.nx, rx, rs.keep k1.keep, rh1, t1, lo.nx.keep k1⟩⟩
theorem dp_set {i : Nat} {x : Str} {e : Expr} {te : DTE} {pos' : Pos} (hN : X.N.Nodup) (he : DE G X e te) (hi : X.N[i]? = some x := by rfl) (hx : Loc X.env.scope x := by first | exact .inl rfl | exact .inr rfl) (hs : swapsWith e (some (.Name x pos')) pos.line X.env = pure false := by rfl) (hf : X.fn x = true ∨ X.env.scope.names.lookup x = some .local := by first | exact .inl rfl | exact .inr rfl | assumption) :
    DP G X (.Assign [.Name x pos'] e pos) (dAsg te (gSet i)) := imS (ps_set hN hi hx he hs hf) fun F σ H ⟨s, h, E, rs, rh, t, lo⟩ =>
  ⟨s, h, _, rs, rh, t, fun x h1 v H1 k1 rh1 rx t1 => lo.nx _ _ _ _ k1 ((rs.keep k1.keep).set i rx) rh1 t1⟩
end
end ML

set_option Elab.async false
set_option linter.all false
set_option maxRecDepth 100000
set_option maxHeartbeats 4000000
namespace ML
open PySem PySem.Spec PyProof.Rows L2

/-! ### loops -/
/-- less may be known from here on -/
def wk (P : DS → DH → Prop) : DS → DH → Prop := fun s h => ∃ s' h', LeS s' s ∧ Le h' h ∧ P s' h'
theorem wk.self {P : DS → DH → Prop} {s : DS} {h : DH} (p : P s h) : wk P s h := ⟨s, h, ⟨rfl, fun _ _ e => e⟩, .refl h, p⟩
def dWhile (c : DTT) (tb : DTS) : DTS := fun E s h => ∃ W : Nat → DS → DH → Prop, (∃ m, wk (W m) s h) ∧ ∀ m s h, W m s h →
  c s h fun b h1 => if b = true then tb { E with nx := wk fun s' h' => ∃ m', m' < m ∧ W m' s' h', ct := wk fun s' h' => ∃ m', m' < m ∧ W m' s' h', bk := E.nx } s h1 else E.nx s h1
section
variable {G : Gv} {X : Cx} {pos : Pos}
theorem dp_while {c : Expr} {body : List Stmt} {tc : DTT} {tb : DTS} (hp : PassesOwn (model X.prog X.w) X.A X.env X.xe) (hc : DT G X c tc) (hb : DPs G X body tb) : DP G X (.While c body [] pos) (dWhile tc tb) := imS (ps_while hp hc hb) fun F σ H ⟨s, h, E, rs, rh, ⟨W, ⟨m0, s0, h0, ls, le, w0⟩, turn⟩, lo⟩ => by
  refine ⟨fun m σ' H' => ∃ s' h', Mv H h H' h' ∧ RS G H' s' σ' ∧ RH G H' h' ∧ W m s' h', ⟨m0, s0, h0, Mv.refl.le le, rs.le ls, rh.le le, w0⟩, ?_⟩
  rintro m σ1 H1 ⟨s1, h1, k1, rs1, rh1, w1⟩
  refine ⟨s1, h1, _, rs1, rh1, turn m s1 h1 w1, fun b h2 H2 k2 rh2 t2 => ?_⟩
  cases b with
  | true =>
    refine ⟨fun σ' H' => ∃ m', m' < m ∧ ∃ s' h', Mv H h H' h' ∧ RS G H' s' σ' ∧ RH G H' h' ∧ W m' s' h', fun _ _ z => z, s1, h2, _, rs1.keep k2.keep, rh2, t2, ?_⟩
    have nx : LoN G H2 h2 (wk fun s' h' => ∃ m', m' < m ∧ W m' s' h') fun σ' H' => ∃ m', m' < m ∧ ∃ s' h', Mv H h H' h' ∧ RS G H' s' σ' ∧ RH G H' h' ∧ W m' s' h' := by
      rintro s3 h3 σ3 H3 k3 rs3 rh3 ⟨s4, h4, ls, le, m', lt, w⟩
      exact ⟨m', lt, s4, h4, ((k1.trans k2).trans k3).le le, rs3.le ls, rh3.le le, w⟩
    exact ⟨nx, lo.rt.keep (k1.trans k2), lo.nx.keep (k1.trans k2), nx⟩
  | false => exact lo.nx _ _ _ _ (k1.trans k2) (rs1.keep k2.keep) rh2 t2
end

/-- what is walked: the items, and what must hold of the heap at each turn -/
abbrev DTI := DS → DH → (List D → (DH → Prop) → DH → Prop) → Prop
structure WalksD (G : Gv) (H0 : Hp) (J : It) (items : List D) (chk : DH → Prop) : Prop where
  go : ∀ i H h d, Keep H0 H → RH G H h → chk h → items[i]? = some d → J.go i H ∧ ∀ x H', J.yld i H x H' → Mv H h H' h ∧ RH G H' h ∧ RV G H' d x
  stop : ∀ i H h, Keep H0 H → RH G H h → chk h → items.length ≤ i → J.stop i H
theorem WalksD.keep {G : Gv} {H H' : Hp} {J : It} {items : List D} {chk : DH → Prop} (w : WalksD G H J items chk) (k : Keep H H') : WalksD G H' J items chk :=
  ⟨fun i H1 h d k1 => w.go i H1 h d (k.trans k1), fun i H1 h k1 => w.stop i H1 h (k.trans k1)⟩
def LI (G : Gv) (wi : DTI) : TI := fun σ H R => ∃ s h r, RS G H s σ ∧ RH G H h ∧ wi s h r ∧ ∀ items chk h' J H', Mv H h H' h' → RH G H' h' → WalksD G H' J items chk → r items chk h' → R J H'
abbrev DI (G : Gv) (X : Cx) (tg iter : Expr) (wi : DTI) : Prop := PI X tg iter (LI G wi)
def forD (chk : DH → Prop) (g : DTG) (tb : DTS) (E : DEnds) : List D → DS → DH → Prop
  | [], s, h => chk h ∧ E.nx s h
  | x :: r, s, h => chk h ∧ g x s h fun s1 h1 => tb { E with nx := wk (forD chk g tb E r), ct := wk (forD chk g tb E r), bk := E.nx } s1 h1
def dFor (wi : DTI) (g : DTG) (tb : DTS) : DTS := fun E s h => wi s h fun items chk h1 => wk (forD chk g tb E items) s h1
theorem imI {X : Cx} {tg e : Expr} {t t' : TI} (h : PI X tg e t) (i : ∀ σ H Q, t' σ H Q → t σ H Q) : PI X tg e t' := ⟨fun pins s σ H Q I hw => h.run pins s σ H Q I (i σ H Q hw)⟩
section
variable {G : Gv} {X : Cx} {pos : Pos}
theorem dp_for {tg iter : Expr} {body : List Stmt} {wi : DTI} {g : DTG} {tb : DTS} (hp : PassesOwn (model X.prog X.w) X.A X.env X.xe) (hc : X.calm = true) (hi : DI G X tg iter wi) (hg : DG G X tg g) (hb : DPs G X body tb)
    (hs : ∀ x, foldedSetIterable iter X.env x = pure x := by intro _; rfl) : DP G X (.For tg iter body [] pos) (dFor wi g tb) := imS (ps_for hp hc hi hg hb hs) fun F σ H ⟨s, h, E, rs, rh, t, lo⟩ => by
  refine ⟨s, h, _, rs, rh, t, fun items chk h1 J H1 k1 rh1 wd ⟨s0, h0, ls, le, t1⟩ => ?_⟩
  refine ⟨fun i m σ' H' => m = items.length - i ∧ i ≤ items.length ∧ ∃ s' h', Mv H1 h1 H' h' ∧ RS G H' s' σ' ∧ RH G H' h' ∧ forD chk g tb E (items.drop i) s' h', ⟨_, rfl, Nat.zero_le _, s0, h0, Mv.refl.le le, (rs.keep k1.keep).le ls, rh1.le le, t1⟩, ?_⟩
  rintro i m σ2 H2 ⟨rfl, hi, s2, h2, k2, rs2, rh2, t2⟩
  by_cases hlt : i < items.length
  · rw [List.drop_eq_getElem_cons hlt] at t2
    obtain ⟨c2, t2⟩ := t2
    obtain ⟨g1, g2⟩ := wd.go i H2 h2 items[i] k2.keep rh2 c2 (by simp [hlt])
    refine .inr ⟨g1, fun σ' H' => ∃ s' h', Mv H1 h1 H' h' ∧ RS G H' s' σ' ∧ RH G H' h' ∧ forD chk g tb E (items.drop (i + 1)) s' h', fun σ' H' z => ⟨items.length - (i + 1), by omega, rfl, hlt, z⟩, fun x H3 y => ?_⟩
    obtain ⟨k3, rh3, rx⟩ := g2 x H3 y
    refine ⟨_, s2, h2, _, rx, rs2.keep k3.keep, rh3, t2, fun s4 h4 σ4 H4 k4 rs4 rh4 t4 => ?_⟩
    have k14 : Mv H1 h1 H4 h4 := k2.trans (k3.trans k4)
    have nx : LoN G H4 h4 (wk (forD chk g tb E (items.drop (i + 1)))) fun σ' H' => ∃ s' h', Mv H1 h1 H' h' ∧ RS G H' s' σ' ∧ RH G H' h' ∧ forD chk g tb E (items.drop (i + 1)) s' h' := by
      rintro s5 h5 σ5 H5 k5 rs5 rh5 ⟨s6, h6, ls, le, w⟩
      exact ⟨s6, h6, (k14.trans k5).le le, rs5.le ls, rh5.le le, w⟩
    exact ⟨s4, h4, _, rs4, rh4, t4, ⟨nx, lo.rt.keep (k1.trans k14), lo.nx.keep (k1.trans k14), nx⟩⟩
  · have e : i = items.length := by omega
    subst e
    rw [List.drop_length] at t2
    exact .inl ⟨wd.stop _ H2 h2 k2.keep rh2 t2.1 (Nat.le_refl _), lo.nx _ _ _ _ (k1.trans k2) rs2 rh2 t2.2⟩
end

/-! ### comprehensions -/
theorem wipe_in {σ : L2.St} {i : Nat} : ∀ {vs : List Nat}, i ∈ vs → i < σ.length → (wipe σ vs)[i]? = some none
  | [], h, _ => by cases h
  | v :: vs, h, hl => by
    unfold wipe
    by_cases e : v = i
    · subst e
      exact List.getElem?_set_self (by rw [wipe_length]; exact hl)
    · rw [List.getElem?_set_ne e]
      rcases List.mem_cons.mp h with z | z
      · exact absurd z.symm e
      · exact wipe_in z hl
theorem wipe_eq {σ τ : L2.St} {vs : List Nat} (hl : σ.length = τ.length) (h : ∀ i, i ∉ vs → σ[i]? = τ[i]?) : wipe σ vs = wipe τ vs := by
  refine List.ext_getElem? fun i => ?_
  by_cases hi : i ∈ vs
  · by_cases hlt : i < σ.length
    · rw [wipe_in hi hlt, wipe_in hi (by rw [← hl]; exact hlt)]
    · rw [List.getElem?_eq_none (by rw [wipe_length]; omega), List.getElem?_eq_none (by rw [wipe_length]; omega)]
  · rw [wipe_out hi, wipe_out hi]; exact h i hi
/-- a target that stores into the slots vs alone -/
def Sml (vs : List Nat) (σ σ' : L2.St) : Prop := σ.length = σ'.length ∧ ∀ i, i ∉ vs → σ[i]? = σ'[i]?
def LGv (G : Gv) (vs : List Nat) (g : DTG) : TG := fun v σ H Q => ∃ d s h q, RV G H d v ∧ RS G H s σ ∧ RH G H h ∧ g d s h q ∧ ∀ s' h' σ' H', Mv H h H' h' → RS G H' s' σ' → RH G H' h' → Sml vs σ σ' → q s' h' → Q σ' H'
def LGvs (G : Gv) (vs : List Nat) (g : DTGs) : TGs := fun v σ H Q => ∃ d s h q, RVs G H d v ∧ RS G H s σ ∧ RH G H h ∧ g d s h q ∧ ∀ s' h' σ' H', Mv H h H' h' → RS G H' s' σ' → RH G H' h' → Sml vs σ σ' → q s' h' → Q σ' H'
abbrev DGv (G : Gv) (X : Cx) (vs : List Nat) (e : Expr) (g : DTG) : Prop := PG X e (LGv G vs g)
abbrev DGvs (G : Gv) (X : Cx) (vs : List Nat) (e : List Expr) (g : DTGs) : Prop := PGs X e (LGvs G vs g)
section
variable {G : Gv} {X : Cx} {pos : Pos} {vs : List Nat}
theorem dv_name {i : Nat} {x : Str} (hN : X.N.Nodup) (hi : X.N[i]? = some x := by rfl) (hm : i ∈ vs := by decide) (hx : Loc X.env.scope x := by first | exact .inl rfl | exact .inr rfl) (hf : X.fn x = true ∨ X.env.scope.names.lookup x = some .local := by first | exact .inl rfl | exact .inr rfl | assumption) : DGv G X vs (.Name x pos) (gSet i) :=
  imG (pg_name hN hi hx hf) fun v σ H Q ⟨d, s, h, q, rv, rs, rh, t, lo⟩ => lo _ _ _ _ .refl (rs.set i rv) rh ⟨by simp, fun j hj => by rw [List.getElem?_set_ne (fun z => hj (by rw [← z]; exact hm))]⟩ t
theorem dvs_nil : DGvs G X vs [] gsNil := imGs pgs_nil fun v σ H Q ⟨d, s, h, q, rv, rs, rh, ⟨e, t⟩, lo⟩ => by
  subst e
  exact ⟨RVs.nil.mp rv, lo _ _ _ _ .refl rs rh ⟨rfl, fun _ _ => rfl⟩ t⟩
theorem dvs_cons {e : Expr} {es : List Expr} {t : DTG} {u : DTGs} (h1 : DGv G X vs e t) (h2 : DGvs G X vs es u)
    (hs : (assignEach (e :: es) X.env).map (·.2) = assign e X.env :: (assignEach es X.env).map (·.2) := by rfl) : DGvs G X vs (e :: es) (gsCons t u) := imGs (pgs_cons h1 h2 hs) fun ws σ H Q ⟨ds, s, h, q, rv, rs, rh, ⟨d, r, e, t⟩, lo⟩ => by
  subst e
  obtain ⟨v, vr, e1, r1, r2⟩ := RVs.cons.mp rv
  refine ⟨v, vr, e1, d, s, h, _, r1, rs, rh, t, fun s1 h1 σ1 H1 k1 rs1 rh1 m1 t1 => ?_⟩
  exact ⟨r, s1, h1, q, r2.keep k1.keep, rs1, rh1, t1, fun s2 h2 σ2 H2 k2 rs2 rh2 m2 t2 => lo _ _ _ _ (k1.trans k2) rs2 rh2 ⟨m1.1.trans m2.1, fun i hi => (m1.2 i hi).trans (m2.2 i hi)⟩ t2⟩
theorem dv_tup {es : List Expr} {k : Nat} {t : DTGs} {n : Nat} (hK : X.K = G.K) (hc : X.calm = true) (h : DGvs G X vs es t)
    (hn : (assignEach es X.env).length = n := by rfl) (hst : (assignEach es X.env).findIdx? (·.1) = none := by rfl) : DGv G X vs (.Tuple es k pos) (gUn n t) := imG (pg_tup hc h hn hst) fun v σ H Q ⟨d, s, h, q, rv, rs, rh, ⟨ds, e, hl, t⟩, lo⟩ => by
  subst e
  obtain ⟨a, xs, e1, ht, r⟩ := rv.tup
  exact ⟨a, xs, e1, by rw [hK]; exact ht.sq, by rw [r.length]; exact hl, ds, s, h, q, r, rs, rh, t, lo⟩
end
def dwipe (s : DS) : List Nat → DS
  | [] => s
  | v :: vs => (dwipe s vs).set v none
theorem RS.wipe {G : Gv} {H : Hp} {s : DS} {σ : L2.St} (r : RS G H s σ) : ∀ vs, RS G H (dwipe s vs) (wipe σ vs)
  | [] => r
  | v :: vs => (RS.wipe r vs).unset v none
def compD (chk : DH → Prop) (g : DTG) (tt : DTT) (te : DTE) (s : DS) (q : List D → DH → Prop) : List D → List D → DH → Prop
  | [], acc, h => chk h ∧ q acc h
  | x :: r, acc, h => chk h ∧ g x s h fun s2 h2 => tt s2 h2 fun b h3 =>
    if b = true then te s2 h3 fun y h4 => acc.length < sizeLine ∧ ∃ h5, Le h5 h4 ∧ compD chk g tt te s q r (acc ++ [y]) h5 else ∃ h5, Le h5 h3 ∧ compD chk g tt te s q r acc h5
def dLc (wi : DTI) (g : DTG) (tt : DTT) (te : DTE) (vs : List Nat) : DTE := fun s h q => wi s h fun items chk h1 =>
  ∃ h2, Le h2 h1 ∧ compD chk g tt te (dwipe s vs) (fun acc h2 => ∀ p, h2 p = none → q (.ref p) (dup h2 p (.lst acc))) items [] h2
def LTs (G : Gv) (t : DTT) : TT := LT G t
abbrev DTs (G : Gv) (X : Cx) (ifs : List Expr) (t : DTT) : Prop := PTs X ifs (LT G t)
def dYes : DTT := fun _ h q => q true h
section
variable {G : Gv} {X : Cx}
theorem dts_nil : DTs G X [] dYes := ⟨fun pins s σ H Q I ⟨s', h, q, rs, rh, t, lo⟩ => pts_nil.run pins s σ H Q I (lo true h H .refl rh t)⟩
theorem dts_one {c : Expr} {t : DTT} (h : DT G X c t) : DTs G X [c] t := pts_one h
theorem lc_low {wi : DTI} {g : DTG} {tt : DTT} {te : DTE} {vs : List Nat} {σ : L2.St} {H : Hp} {Q : VK} (h : L G (dLc wi g tt te vs) σ H Q) : tLc (LI G wi) (LGv G vs g) (LT G tt) (L G te) vs σ H Q := by
  obtain ⟨s, h, q, rs, rh, t, lo⟩ := h
  refine ⟨s, h, _, rs, rh, t, fun items chk h1 J H1 k1 rh1 wd ⟨h2, le, t1⟩ P hP => ?_⟩
  have rs1 := (rs.keep k1.keep).wipe vs
  -- the new list stands at P, untracked
  refine ⟨fun i m H' => m = items.length - i ∧ i ≤ items.length ∧ ∃ h' acc vacc, Mv H1 h1 H' h' ∧ RH G H' h' ∧ h' P = none ∧ H' P = some (.lst vacc) ∧ RVs G H' acc vacc ∧
    compD chk g tt te (dwipe s vs) (fun acc h2 => ∀ p, h2 p = none → q (.ref p) (dup h2 p (.lst acc))) (items.drop i) acc h',
    ⟨_, rfl, Nat.zero_le _, h2, [], [], (Mv.new hP).le le, (rh1.new hP).le le, le.none (rh1.free hP), upd_same, RVs.nil.mpr rfl, t1⟩, ?_⟩
  rintro i m H2 ⟨rfl, hi, h3, acc, vacc, k3, rh3, hp3, e3, ra, t3⟩
  have n3 : H2 P ≠ none := by rw [e3]; intro z; cases z
  by_cases hlt : i < items.length
  · rw [List.drop_eq_getElem_cons hlt] at t3
    obtain ⟨c3, t3⟩ := t3
    obtain ⟨g1, g2⟩ := wd.go i H2 h3 items[i] k3.keep rh3 c3 (by simp [hlt])
    refine .inr ⟨g1, fun H' => ∃ h' acc vacc, Mv H1 h1 H' h' ∧ RH G H' h' ∧ h' P = none ∧ H' P = some (.lst vacc) ∧ RVs G H' acc vacc ∧
      compD chk g tt te (dwipe s vs) (fun acc h2 => ∀ p, h2 p = none → q (.ref p) (dup h2 p (.lst acc))) (items.drop (i + 1)) acc h', fun H' z => ⟨items.length - (i + 1), by omega, rfl, hlt, z⟩, fun x H4 y => ?_⟩
    obtain ⟨k4, rh4, rx⟩ := g2 x H4 y
    refine ⟨_, dwipe s vs, h3, _, rx, rs1.keep (k3.trans k4).keep, rh4, t3, fun s5 h5 σ5 H5 k5 rs5 rh5 sm t5 => ⟨(wipe_eq (sm.1) sm.2).symm.trans ?_, s5, h5, _, rs5, rh5, t5, fun b h6 H6 k6 rh6 t6 => ?_⟩⟩
    · exact wipe_eq (by rw [wipe_length]) fun i hi => wipe_out hi
    · have k46 := (k4.trans k5).trans k6
      obtain ⟨z1, z2⟩ := k46.fr P n3 hp3
      cases b with
      | true =>
        refine ⟨s5, h6, _, rs5.keep k6.keep, rh6, t6, fun y h7 vy H7 k7 rh7 ry ⟨hz, h8, le8, t7⟩ => ?_⟩
        obtain ⟨z3, z4⟩ := (k46.trans k7).fr P n3 hp3
        have e7 : H7 P = some (.lst vacc) := z3.trans e3
        have kp : Keep H7 (upd H7 P (.lst (vacc ++ [vy]))) := .put e7 rfl
        have ra7 := ra.keep (k46.trans k7).keep
        refine ⟨vacc, e7, by rw [ra.length]; exact hz, h8, acc ++ [y], vacc ++ [vy], ?_, fun b u q => ?_, le8.none z4, upd_same, (ra7.keep kp).append (RVs.cons.mpr ⟨_, _, rfl, ry.keep kp, RVs.nil.mpr rfl⟩), t7⟩
        · have m7 := (k3.trans (k46.trans k7)).le le8
          refine ⟨m7.keep.trans kp, fun c n e => ?_⟩
          obtain ⟨e1, e2⟩ := m7.fr c n e
          have : c ≠ P := fun z => n (by rw [z]; exact hP)
          exact ⟨(upd_ne this).trans e1, e2⟩
        · have hb : b ≠ P := fun z => by rw [z] at q; rw [le8 P u q] at z4; cases z4
          exact ((rh7.le le8) b u q).keep kp (upd_ne hb)
      | false =>
        obtain ⟨h8, le8, t7⟩ := t6
        exact ⟨h8, acc, vacc, (k3.trans k46).le le8, rh6.le le8, le8.none z2, z1.trans e3, ra.keep k46.keep, t7⟩
  · have e : i = items.length := by omega
    subst e
    rw [List.drop_length] at t3
    refine .inl ⟨wd.stop _ H2 h3 k3.keep rh3 t3.1 (Nat.le_refl _), ?_⟩
    have rp : RH G H2 (dup h3 P (.lst acc)) := fun b u z => by
      by_cases hb : b = P
      · subst hb; rw [dup_same] at z; cases z; exact ⟨vacc, e3, ra⟩
      · rw [dup_ne hb] at z; exact rh3 b u z
    refine lo _ _ _ _ (k1.trans ⟨k3.keep, fun c n e => ?_⟩) rp rv_ref (t3.2 P hp3)
    obtain ⟨e1, e2⟩ := k3.fr c n e
    have : c ≠ P := fun z => n (by rw [z]; exact hP)
    exact ⟨e1, (dup_ne this).trans e2⟩
theorem de_lc {elt tg iter : Expr} {ifs : List Expr} {scope : Scope} {pos : Pos} {wi : DTI} {g : DTG} {tt : DTT} {te : DTE} (own : List (Str × Nat)) (hc : X.calm = true) (hN : X.N.Nodup) (hi : DI G X tg iter wi) (ok : blkC X.N X.env.scope scope own = true)
    (hg : ∀ (s : Shared) (H : Hp) (C : Addr) (cl : List (Str × Addr)) (fp : List Addr), DGv G (X.blk s H scope (compEnvC scope cl C X.env) fp) (own.map (·.2)) tg g) (ht : ∀ (s : Shared) (H : Hp) (C : Addr) (cl : List (Str × Addr)) (fp : List Addr), DTs G (X.blk s H scope (compEnvC scope cl C X.env) fp) ifs tt)
    (he : ∀ (s : Shared) (H : Hp) (C : Addr) (cl : List (Str × Addr)) (fp : List Addr), DE G (X.blk s H scope (compEnvC scope cl C X.env) fp) elt te) (hs : ∀ x, foldedSetIterable iter X.env x = pure x := by intro _; rfl) :
    DE G X (.ListComp elt [⟨tg, iter, ifs, 0⟩] scope pos) (dLc wi g tt te (own.map (·.2))) := imE (pe_lc hc hN hi (blkOk_by ok) hg ht he hs) fun σ H Q h => lc_low h
theorem dp_setLc {i : Nat} {y : Str} {py : Pos} {elt tg iter : Expr} {ifs : List Expr} {scope : Scope} {pos spos : Pos} {wi : DTI} {g : DTG} {tt : DTT} {te : DTE} (own : List (Str × Nat)) (hc : X.calm = true) (hN : X.N.Nodup) (hy : X.N[i]? = some y) (hyl : X.env.scope.names.lookup y = some .local)
    (hsw : swapsWith (.ListComp elt [⟨tg, iter, ifs, 0⟩] scope pos) (some (.Name y py)) spos.line X.env = pure true) (hi : DI G X tg iter wi) (ok : blkC X.N X.env.scope scope own = true)
    (hg : ∀ (s : Shared) (H : Hp) (C : Addr) (cl : List (Str × Addr)) (fp : List Addr), DGv G (X.blk s H scope (compEnvC scope cl C X.env) fp) (own.map (·.2)) tg g) (ht : ∀ (s : Shared) (H : Hp) (C : Addr) (cl : List (Str × Addr)) (fp : List Addr), DTs G (X.blk s H scope (compEnvC scope cl C X.env) fp) ifs tt)
    (he : ∀ (s : Shared) (H : Hp) (C : Addr) (cl : List (Str × Addr)) (fp : List Addr), DE G (X.blk s H scope (compEnvC scope cl C X.env) fp) elt te) (hs : ∀ x, foldedSetIterable iter X.env x = pure x := by intro _; rfl) :
    DP G X (.Assign [.Name y py] (.ListComp elt [⟨tg, iter, ifs, 0⟩] scope pos) spos) (dAsg (dLc wi g tt te (own.map (·.2))) (gSet i)) := imS (ps_setLc hc hN hy hyl hsw hi (blkOk_by ok) hg ht he hs) fun F σ H ⟨s, h, E, rs, rh, t, lo⟩ =>
  lc_low ⟨s, h, _, rs, rh, t, fun x h1 v H1 k1 rh1 rx t1 => lo.nx _ _ _ _ k1 ((rs.keep k1.keep).set i rx) rh1 t1⟩
end
end ML

set_option Elab.async false
set_option linter.all false
set_option maxRecDepth 100000
set_option maxHeartbeats 4000000
namespace ML
open PySem PySem.Spec PyProof.Rows L2

/-! ### room: one a call, two a making -/
structure Rm (n : Nat) (A : Around) : Prop where
  hd : A.handled = none
  dp : A.depth + n + 12 < recursionLimit
  un : A.units + 4 * n + 200 < cLine
theorem Rm.mono {j k : Nat} {A : Around} (r : Rm k A) (h : j ≤ k) : Rm j A := ⟨r.hd, by have := r.dp; omega, by have := r.un; omega⟩
theorem Rm.deeper {k : Nat} {A : Around} (r : Rm (k + 1) A) (env : Env) : Rm k (A.deeper env) :=
  ⟨r.hd, (by have q := r.dp; show (A.depth + 1) + k + 12 < _; omega), (by have q := r.un; show (A.units + 3) + 4 * k + 200 < _; omega)⟩
theorem Rm.make {k : Nat} {A : Around} (r : Rm (k + 1) A) (C : Addr) (us : List Value) (kw : List (Str × Value)) : Rm k (A.under (.builtin "type.__call__" ⟨.ref C :: us, kw⟩)) :=
  ⟨r.hd, (by have q := r.dp; rw [make_depth]; omega), (by have q := r.un; rw [make_units]; omega)⟩
theorem Rm.depth {k : Nat} {A : Around} (r : Rm k A) : A.depth < recursionLimit := by have q := r.dp; omega
theorem Rm.units {k : Nat} {A : Around} (r : Rm k A) : A.units + 64 < cLine := by have q := r.un; omega
theorem Rm.units1 {k : Nat} {A : Around} (r : Rm k A) : A.units + 1 < cLine := by have q := r.un; omega

section
variable (P : Program) (w : World) (G : Gv) (mg : Str → Option Value) (base : Heap)
/-- a def keeps a promise about data, where there is room for n -/
structure FnO (n : Nat) (f : Addr) (fd : FuncData) (ps : List Str) (sp : DSp) : Prop where
  len : ∀ ds h q x, sp ds h q x → ds.length = ps.length
  run : ∀ (A : Around) (outer : List Env) (s : Shared) (H : Hp) (args : Args) (us : List Value) (vs : List V) (Q : VK) (E : XK), Rm n A → Env0 P w G.K mg base A outer s H → BindsTo s fd args (ps.zip us) → Vals vs us → LSp G sp vs H Q E →
    codeAny (model P w) A (.call (.ref f) args) (CR (L2.CX P w) outer P w H s Q E) s
/-- a global name is a def that keeps a promise -/
def GFn (n : Nat) (x : Str) (sp : DSp) : Prop := ∃ f fd ps, mg x = some (.ref f) ∧ PySem.W.keepIn G.K (.ref f) = true ∧ Binds G.K fd ps [] ∧ FnO P w G mg base n f fd ps sp
/-- a method of class c -/
def GMe (n : Nat) (c : Nat) (m : Str) (sp : DSp) : Prop := ∃ f fd ps, Meth G.K (G.adr c) m f ∧ m ∉ G.fn c ∧ Binds G.K fd ps [] ∧ FnO P w G mg base n f fd ps sp
/-- a global name is class c, sp the promise of its __init__ -/
def GMk (n : Nat) (c : Nat) (x : Str) (sp : DSp) : Prop := ∃ f fd ps, mg x = some (.ref (G.adr c)) ∧ Mk G.K (G.adr c) f ∧ Binds G.K fd ps [] ∧ FnO P w G mg base n f fd ps sp
structure ClsD (c : Nat) : Prop where
  cls : Cls G.K (G.adr c)
  nd : (G.fn c).Nodup
  na : ∀ f ∈ G.fn c, NoAttr G.K (G.adr c) f
  sm : (G.fn c).length < 1000
end
section
variable {P : Program} {w : World} {G : Gv} {mg : Str → Option Value} {base : Heap}
theorem FnO.mono {j k : Nat} {f : Addr} {fd : FuncData} {ps : List Str} {sp : DSp} (F : FnO P w G mg base j f fd ps sp) (h : j ≤ k) : FnO P w G mg base k f fd ps sp :=
  ⟨F.len, fun A outer s H args us vs Q E hr => F.run A outer s H args us vs Q E (hr.mono h)⟩
end

section
variable {X : Cx} {G : Gv}
abbrev XFn (X : Cx) (G : Gv) := GFn X.prog X.w G X.mg X.base
abbrev XMe (X : Cx) (G : Gv) := GMe X.prog X.w G X.mg X.base
abbrev XMk (X : Cx) (G : Gv) := GMk X.prog X.w G X.mg X.base
/-- the callee runs, from data -/
theorem run_call {n : Nat} {f : Addr} {fd : FuncData} {ps : List Str} {sp : DSp} {pins : List (Addr × Obj)} {σ : L2.St} {H : Hp} {s : Shared} {Q : VK} {us : List Value} {vs : List V} {w : DW} {sl : DS} {h : DH} {ds : List D} {q : DQ}
    (F : FnO X.prog X.w G X.mg X.base n f fd ps sp) (hK : X.K = G.K) (hr : Rm n X.A) (hb : Binds G.K fd ps []) (tk : Takes X (LW G w)) (I : Inv X pins σ H s) (r : Vals vs us)
    (rs : RS G H sl σ) (rh : RH G H h) (rv : RVs G H ds vs) (hsp : sp ds h q fun c fs h' => w c fs sl h') (lo : Lo G H h q Q) : wpAny (model X.prog X.w) X.A (call (.ref f) us) (EP X pins σ Q) X.xe s := by
  have hl : (us ++ []).length = ps.length := by rw [List.append_nil, ← r.length, rv.length]; exact F.len _ _ _ _ hsp
  have bt := hb s us (by rw [← hK]; exact I.kIn) hl
  rw [List.append_nil] at bt
  have e0 : Env0 X.prog X.w G.K X.mg X.base X.A X.stack s H := by rw [← hK]; exact I.env0
  have lx : LX G H (fun c fs h' => w c fs sl h') (fun cls d H' => LW G w cls d σ H') := fun c fs d h' H' k rh' rx z => ⟨c, fs, sl, h', rfl, rx, rs.keepT k, rh', z⟩
  refine wpAny_call (codeAny_mono (F.run X.A X.stack s H ⟨us, []⟩ us vs Q _ hr e0 bt r ⟨ds, h, q, _, rv, rh, hsp, lo, lx⟩) fun res s' hq => ?_)
  cases res with
  | error e => exact tk e s' (XE.of_call I (fun cls d H' z => z) hq)
  | ok fl => cases fl with
    | ret u => exact I.after hq
    | next => exact hq.elim
    | brk => exact hq.elim
    | cont => exact hq.elim
def dCall (sp : DSp) (w : DW) (t : DTA) : DTE := fun s h q => t s h fun ds h1 => sp ds h1 q fun c fs h' => w c fs s h'
theorem de_call {n : Nat} {x : Str} {sp : DSp} {w : DW} {p pos : Pos} {e : Expr} {es : List Expr} {t : DTA} (F : XFn X G n x sp) (hK : X.K = G.K) (hr : Rm n X.A) (tk : Takes X (LW G w)) (ha : DA G X (e :: es) t) (hg : Gl X x := by rfl)
    (hdb : (x == ("__debug__" : Str)) = false := by decide) (he : starEach (e :: es) X.env = (false, eval e X.env) :: starEach es X.env := by rfl) (hpl : (backTo pos (starEach es X.env)).any (·.1) = false := by rfl) :
    DE G X (.Call (.Name x p) (e :: es) [] pos) (dCall sp w t) := by
  obtain ⟨f, fd, ps, hm, hk, hb, F⟩ := F
  refine ⟨fun pins s σ H Q I ⟨sl, h, q, rs, rh, hw, lo⟩ => ?_⟩
  refine wpAny_Call_Name_kw (ld_glob I hg hm ?_ hdb)
  refine PySem.W.callWith_K (h₀ := X.base) I.ok.mod.kin (by rw [hK]; exact hk) (thn (ha.run pos pins s σ H (fun vs H1 => ∃ ds h1, Mv H h H1 h1 ∧ RH G H1 h1 ∧ RVs G H1 ds vs ∧ sp ds h1 q fun c fs h' => w c fs sl h') I ⟨sl, h, _, rs, rh, hw, fun ds h1 vs H1 k1 rh1 rv1 t1 => ⟨ds, h1, k1, rh1, rv1, t1⟩⟩) fun us s1 ⟨vs, H1, I1, r, ds, h1, k1, rh1, rv1, t1⟩ => ⟨I1.kIn, ?_⟩) he hpl
  exact run_call F hK hr hb tk I1 r (rs.keep k1.keep) rh1 rv1 t1 (lo.keep k1)
theorem de_call0 {n : Nat} {x : Str} {sp : DSp} {w : DW} {p pos : Pos} (F : XFn X G n x sp) (hK : X.K = G.K) (hr : Rm n X.A) (tk : Takes X (LW G w)) (hg : Gl X x := by rfl)
    (hdb : (x == ("__debug__" : Str)) = false := by decide) : DE G X (.Call (.Name x p) [] [] pos) (dCall sp w dNil) := by
  obtain ⟨f, fd, ps, hm, hk, hb, F⟩ := F
  refine ⟨fun pins s σ H Q I ⟨sl, h, q, rs, rh, hw, lo⟩ => ?_⟩
  refine wpAny_Call_Name_kw (ld_glob I hg hm ?_ hdb)
  exact PySem.W.callWith_K0 I.kIn (by rw [hK]; exact hk) (run_call (us := []) F hK hr hb tk I .nil rs rh (RVs.nil.mpr rfl) hw lo)

/-! ### fields -/
theorem lk_get : ∀ {fs : List (Str × V)} {i : Nat} {f : Str}, (fs.map (·.1)).Nodup → (fs.map (·.1))[i]? = some f → fs.lookup f = (fs.map (·.2))[i]?
  | [], i, f, _, e => by simp at e
  | (g, v) :: r, 0, f, _, e => by
    simp at e; subst e
    simp [List.lookup]
  | (g, v) :: r, i + 1, f, nd, e => by
    have e' : (r.map (·.1))[i]? = some f := by simpa using e
    have nd' := List.nodup_cons.mp nd
    have ne : (f == g) = false := beq_eq_false_iff_ne.mpr fun z => nd'.1 (by subst z; exact List.mem_of_getElem? e')
    have := lk_get nd'.2 e'
    simp only [List.lookup, ne, List.map_cons, List.getElem?_cons_succ]
    exact this
theorem lk_none : ∀ {fs : List (Str × V)} {f : Str}, f ∉ fs.map (·.1) → fs.lookup f = none
  | [], f, _ => rfl
  | (g, v) :: r, f, h => by
    have ne : (f == g) = false := beq_eq_false_iff_ne.mpr fun z => h (by subst z; simp)
    simp only [List.lookup, ne]
    exact lk_none fun z => h (by simp only [List.map_cons]; exact List.mem_cons_of_mem _ z)
theorem put_set : ∀ {fs : List (Str × V)} {i : Nat} {f : Str} {v : V}, (fs.map (·.1)).Nodup → (fs.map (·.1))[i]? = some f → (putF f v fs).map (·.1) = fs.map (·.1) ∧ (putF f v fs).map (·.2) = (fs.map (·.2)).set i v
  | [], i, f, v, _, e => by simp at e
  | (g, u) :: r, 0, f, v, _, e => by
    simp at e; subst e
    simp [putF]
  | (g, u) :: r, i + 1, f, v, nd, e => by
    have e' : (r.map (·.1))[i]? = some f := by simpa using e
    have nd' := List.nodup_cons.mp nd
    have ne : ¬ g = f := fun z => nd'.1 (by subst z; exact List.mem_of_getElem? e')
    obtain ⟨e1, e2⟩ := put_set (v := v) nd'.2 e'
    simp only [putF, if_neg ne, List.map_cons, List.set_cons_succ, e1, e2, and_self]
theorem put_new : ∀ {fs : List (Str × V)} {f : Str} {v : V}, f ∉ fs.map (·.1) → putF f v fs = fs ++ [(f, v)]
  | [], f, v, _ => rfl
  | (g, u) :: r, f, v, h => by
    have ne : ¬ g = f := fun z => h (by subst z; simp)
    simp only [putF, if_neg ne, List.cons_append]
    rw [put_new fun z => h (by simp only [List.map_cons]; exact List.mem_cons_of_mem _ z)]
def putAt (fs : List D) (i : Nat) (y : D) : List D := if i < fs.length then fs.set i y else fs ++ [y]
def dFld (c i : Nat) (to : DTE) : DTE := fun s h q => to s h fun x h1 => ∃ a fs d, x = .ref a ∧ h1 a = some (.ins c fs) ∧ fs[i]? = some d ∧ q d h1
def dStF (c i : Nat) (te to : DTE) : DTS := fun E s h => te s h fun y h1 => to s h1 fun x h2 => ∃ a fs, x = .ref a ∧ h2 a = some (.ins c fs) ∧ i ≤ fs.length ∧ E.nx s (dup h2 a (.ins c (putAt fs i y)))
theorem de_fld {c i : Nat} {e : Expr} {f : Str} {pos : Pos} {to : DTE} (T : ClsD G c) (hK : X.K = G.K) (he : DE G X e to) (hf : (G.fn c)[i]? = some f) (hb : attributeBase e f X.env (eval e X.env) = eval e X.env := by rfl) : DE G X (.Attribute e f pos) (dFld c i to) :=
  imE (pe_fld he hb) fun σ H Q ⟨s, h, q, rs, rh, t, lo⟩ => by
    refine ⟨s, h, _, rs, rh, t, fun x h1 vx H1 k1 rh1 rx ⟨a, fs, d, e1, e2, e3, t1⟩ => ?_⟩
    subst e1
    obtain ⟨dx, vs, o1, o2, o3, o4⟩ := rh1 a _ e2
    obtain ⟨v, v1, v2⟩ := o4.get e3
    have hi : i < fs.length := by
      rcases Nat.lt_or_ge i fs.length with z | z
      · exact z
      · rw [List.getElem?_eq_none z] at e3; cases e3
    have hn : (vs.map (·.1))[i]? = some f := by rw [o2, List.getElem?_take, if_pos hi]; exact hf
    refine ⟨a, _, dx, vs, v, rx.ref, o1, by rw [hK]; exact T.cls, by rw [hK]; exact T.na f (List.mem_of_getElem? hf), ?_, lo _ _ _ _ k1 rh1 v2 t1⟩
    rw [lk_get (by rw [o2]; exact T.nd.sublist (List.take_sublist _ _)) hn]
    exact v1
theorem dp_fld {c i : Nat} {e o : Expr} {f : Str} {pos pos' : Pos} {te to : DTE} (T : ClsD G c) (hK : X.K = G.K) (ho : DE G X o to) (hv : DE G X e te) (hf : (G.fn c)[i]? = some f) (hs : swapsWith e (some (.Attribute o f pos')) pos.line X.env = pure false := by rfl) : DP G X (.Assign [.Attribute o f pos'] e pos) (dStF c i te to) :=
  imS (ps_fld ho hv hs) fun F σ H ⟨s, h, E, rs, rh, t, lo⟩ => by
    refine ⟨s, h, _, rs, rh, t, fun y h1 vy H1 k1 rh1 ry t1 => ?_⟩
    refine ⟨s, h1, _, rs.keep k1.keep, rh1, t1, fun x h2 vx H2 k2 rh2 rx ⟨a, fs, e1, e2, hi, t2⟩ => ?_⟩
    subst e1
    obtain ⟨dx, vs, o1, o2, o3, o4⟩ := rh2 a _ e2
    have hl : vs.length = fs.length := by have := o4.length; rwa [List.length_map] at this
    have kp : Keep H2 (upd H2 a (.ins (G.adr c) dx (putF f vy vs))) := .put o1 rfl
    refine ⟨a, _, dx, vs, rx.ref, o1, by rw [hK]; exact T.cls, by rw [hK]; exact T.na f (List.mem_of_getElem? hf), by have := T.sm; omega, ?_⟩
    refine lo.nx _ _ _ _ ((k1.trans k2).trans (.put e2 kp)) ((rs.keep (k1.trans k2).keep).keep kp) (rh2.put kp ?_) t2
    have nd : (vs.map (·.1)).Nodup := by rw [o2]; exact T.nd.sublist (List.take_sublist _ _)
    by_cases hlt : i < fs.length
    · have hn : (vs.map (·.1))[i]? = some f := by rw [o2, List.getElem?_take, if_pos hlt]; exact hf
      obtain ⟨p1, p2⟩ := put_set (v := vy) nd hn
      refine ⟨dx, _, upd_same, ?_, ?_, ?_⟩
      · rw [p1, o2]; unfold putAt; rw [if_pos hlt, List.length_set]
      · unfold putAt; rw [if_pos hlt, List.length_set]; exact o3
      · rw [p2]; unfold putAt; rw [if_pos hlt]; exact (o4.keep kp).set i ((ry.keep k2.keep).keep kp)
    · have ei : i = fs.length := by omega
      subst ei
      have hm : f ∉ vs.map (·.1) := fun z => by
        rw [o2] at z
        obtain ⟨j, hj, ej⟩ := List.mem_iff_getElem.mp z
        have hj2 : j < fs.length := by rw [List.length_take] at hj; omega
        have hj3 : (G.fn c)[j]? = some f := by
          have := List.getElem?_eq_getElem hj
          rw [List.getElem?_take, if_pos hj2, ej] at this
          exact this
        have := (List.getElem?_inj (by rw [List.getElem?_eq_some_iff] at hj3; exact hj3.1) T.nd).mp (hj3.trans hf.symm)
        omega
      have hlf : fs.length < (G.fn c).length := by rw [List.getElem?_eq_some_iff] at hf; exact hf.1
      have et : (G.fn c).take (fs.length + 1) = (G.fn c).take fs.length ++ [f] := by rw [List.take_add_one, hf]; rfl
      rw [put_new hm] at *
      refine ⟨dx, _, upd_same, ?_, ?_, ?_⟩
      · unfold putAt; rw [if_neg hlt, List.map_append, o2, List.length_append, List.length_singleton, et]; rfl
      · unfold putAt; rw [if_neg hlt, List.length_append, List.length_singleton]; omega
      · unfold putAt; rw [if_neg hlt, List.map_append]; exact (o4.keep kp).append (RVs.cons.mpr ⟨_, _, rfl, (ry.keep k2.keep).keep kp, RVs.nil.mpr rfl⟩)

/-! ### methods, makers -/
def dMeth (c : Nat) (sp : DSp) (w : DW) (to : DTE) (t : DTA) : DTE := fun s h q => to s h fun x h1 => ∃ a fs, x = .ref a ∧ h1 a = some (.ins c fs) ∧ t s h1 fun ds h2 => sp (x :: ds) h2 q fun c fs h' => w c fs s h'
def dMake (c : Nat) (sp : DSp) (w : DW) (t : DTA) : DTE := fun s h q => t s h fun ds h1 => ∀ p, h1 p = none → sp (.ref p :: ds) (dup h1 p (.ins c [])) (fun d h2 => d = .non ∧ q (.ref p) h2) fun c fs h' => w c fs s h'
theorem names_not {m : Str} {fs : List D} {vs : List (Str × V)} {c : Nat} (hm : m ∉ G.fn c) (e : vs.map (·.1) = (G.fn c).take fs.length) : vs.lookup m = none :=
  lk_none fun z => hm (List.mem_of_mem_take (by rw [← e]; exact z))
theorem de_meth {pl : Sem Bool} {n c : Nat} {m : Str} {sp : DSp} {w : DW} {apos pos : Pos} {o e : Expr} {es : List Expr} {to : DTE} {t : DTA} (F : XMe X G n c m sp) (T : ClsD G c) (hK : X.K = G.K) (hr : Rm n X.A) (tk : Takes X (LW G w)) (ho : DE G X o to) (ha : DA G X (e :: es) t)
    (hst : starEach (e :: es) X.env = (false, eval e X.env) :: starEach es X.env := by rfl) (hpl : (backTo pos (starEach es X.env)).any (·.1) = false := by rfl)
    (ht : eval (.Call (.Attribute o m apos) (e :: es) [] pos) X.env = (do
      let ov ← eval o X.env
      standAt apos.atName
      let (f, first) ← holding [ov] (getMethod ov m pl)
      callWith pos f first (backTo pos (starEach (e :: es) X.env)) (backToKw pos (keywordEach [] X.env))) := by rfl) :
    DE G X (.Call (.Attribute o m apos) (e :: es) [] pos) (dMeth c sp w to t) := by
  obtain ⟨f, fd, ps, hme, hmn, hb, F⟩ := F
  refine ⟨fun pins s σ H Q I ⟨sl, h, q, rs, rh, hw, lo⟩ => ?_⟩
  refine PySem.W.methodCall_KW (pl := pl) (thn (ho.run pins s σ H (fun vx H1 => ∃ a fs h1, vx = .ref a ∧ Mv H h H1 h1 ∧ RH G H1 h1 ∧ h1 a = some (.ins c fs) ∧ t sl h1 fun ds h2 => sp (.ref a :: ds) h2 q fun c fs h' => w c fs sl h') I ⟨sl, h, _, rs, rh, hw, fun x h1 vx H1 k1 rh1 rx ⟨a, fs, e1, e2, t1⟩ => by
    subst e1; exact ⟨a, fs, h1, rx.ref, k1, rh1, e2, t1⟩⟩) fun u s1 ⟨vx, H1, I1, ru, a, fs, h1, ex, k1, rh1, e2, t1⟩ => ?_) ht
  subst ex
  obtain rfl : u = Value.ref a := ru
  obtain ⟨dx, vs, o1, o2, o3, o4⟩ := rh1 a _ e2
  refine getmeth_ok I1 o1 (by rw [hK]; exact T.cls) (by rw [hK]; exact hme) (names_not hmn o2) ?_
  refine PySem.W.callWith_K (first := [.ref a]) (h₀ := X.base) I.ok.mod.kin (by rw [hK]; exact hme.kp) (thn (ha.run pos pins s1 σ H1 (fun vs H2 => ∃ ds h2, Mv H1 h1 H2 h2 ∧ RH G H2 h2 ∧ RVs G H2 ds vs ∧ sp (.ref a :: ds) h2 q fun c fs h' => w c fs sl h') I1 ⟨sl, h1, _, rs.keep k1.keep, rh1, t1, fun ds h2 vs H2 k2 rh2 rv2 t2 => ⟨ds, h2, k2, rh2, rv2, t2⟩⟩) fun us s2 ⟨ws, H2, I2, r, ds, h2, k2, rh2, rv2, t2⟩ => ⟨I2.kIn, ?_⟩) hst hpl
  exact run_call (us := .ref a :: us) (vs := .ref a :: ws) F hK hr hb tk I2 (.cons rfl r) ((rs.keep k1.keep).keep k2.keep) rh2 (RVs.cons.mpr ⟨_, _, rfl, rv_ref, rv2⟩) t2 (lo.keep (k1.trans k2))
theorem de_meth0 {pl : Sem Bool} {n c : Nat} {m : Str} {sp : DSp} {w : DW} {apos pos : Pos} {o : Expr} {to : DTE} (F : XMe X G n c m sp) (T : ClsD G c) (hK : X.K = G.K) (hr : Rm n X.A) (tk : Takes X (LW G w)) (ho : DE G X o to)
    (ht : eval (.Call (.Attribute o m apos) [] [] pos) X.env = (do
      let ov ← eval o X.env
      standAt apos.atName
      let (f, first) ← holding [ov] (getMethod ov m pl)
      callWith pos f first (backTo pos (starEach [] X.env)) (backToKw pos (keywordEach [] X.env))) := by rfl) :
    DE G X (.Call (.Attribute o m apos) [] [] pos) (dMeth c sp w to dNil) := by
  obtain ⟨f, fd, ps, hme, hmn, hb, F⟩ := F
  refine ⟨fun pins s σ H Q I ⟨sl, h, q, rs, rh, hw, lo⟩ => ?_⟩
  refine PySem.W.methodCall_KW (pl := pl) (thn (ho.run pins s σ H (fun vx H1 => ∃ a fs h1, vx = .ref a ∧ Mv H h H1 h1 ∧ RH G H1 h1 ∧ h1 a = some (.ins c fs) ∧ sp [.ref a] h1 q fun c fs h' => w c fs sl h') I ⟨sl, h, _, rs, rh, hw, fun x h1 vx H1 k1 rh1 rx ⟨a, fs, e1, e2, t1⟩ => by
    subst e1; exact ⟨a, fs, h1, rx.ref, k1, rh1, e2, t1⟩⟩) fun u s1 ⟨vx, H1, I1, ru, a, fs, h1, ex, k1, rh1, e2, t1⟩ => ?_) ht
  subst ex
  obtain rfl : u = Value.ref a := ru
  obtain ⟨dx, vs, o1, o2, o3, o4⟩ := rh1 a _ e2
  refine getmeth_ok I1 o1 (by rw [hK]; exact T.cls) (by rw [hK]; exact hme) (names_not hmn o2) ?_
  exact PySem.W.callWith_K0 (first := [.ref a]) I1.kIn (by rw [hK]; exact hme.kp) (run_call (us := [.ref a]) (vs := [.ref a]) F hK hr hb tk I1 (.cons rfl .nil) (rs.keep k1.keep) rh1 (RVs.cons.mpr ⟨_, _, rfl, rv_ref, RVs.nil.mpr rfl⟩) t1 (lo.keep k1))
theorem run_mk {n c : Nat} {f : Addr} {fd : FuncData} {ps : List Str} {sp : DSp} {pins : List (Addr × Obj)} {σ : L2.St} {H : Hp} {s : Shared} {Q : VK} {us : List Value} {vs : List V} {w : DW} {sl : DS} {h : DH} {ds : List D} {q : DQ}
    (M : Mk G.K (G.adr c) f) (F : FnO X.prog X.w G X.mg X.base n f fd ps sp) (hK : X.K = G.K) (hr : Rm (n + 1) X.A) (hb : Binds G.K fd ps []) (tk : Takes X (LW G w)) (I : Inv X pins σ H s) (r : Vals vs us)
    (rs : RS G H sl σ) (rh : RH G H h) (rv : RVs G H ds vs) (hsp : ∀ p, h p = none → sp (.ref p :: ds) (dup h p (.ins c [])) (fun d h2 => d = .non ∧ q (.ref p) h2) fun c fs h' => w c fs sl h') (lo : Lo G H h q Q) :
    wpAny (model X.prog X.w) X.A (call (.ref (G.adr c)) us) (EP X pins σ Q) X.xe s := by
  have fx : H (s.heap.objs.size + 1) = none := I.hok.fresh (Nat.le_succ _)
  have fd0 : H s.heap.objs.size = none := I.hok.fresh (Nat.le_refl _)
  have I2 := Inv.made (C := G.adr c) I
  have ne : s.heap.objs.size + 1 ≠ s.heap.objs.size := Nat.ne_of_gt (Nat.lt_succ_self _)
  have m1 : Mv H h (upd H s.heap.objs.size (.own (s.heap.objs.size + 1))) h := .new fd0
  have fx1 : (upd H s.heap.objs.size (.own (s.heap.objs.size + 1))) (s.heap.objs.size + 1) = none := (upd_ne ne).trans fx
  have m2 := m1.trans (Mv.newT (m := .ins c []) (o := .ins (G.adr c) s.heap.objs.size []) fx1)
  have rh2 := (rh.new (o := .own (s.heap.objs.size + 1)) fd0).put (m := .ins c []) (o := .ins (G.adr c) s.heap.objs.size []) (.new fx1) ⟨s.heap.objs.size, [], upd_same, rfl, Nat.zero_le _, RVs.nil.mpr rfl⟩
  have hq := hsp (s.heap.objs.size + 1) (rh.free fx)
  have hl : (Value.ref (s.heap.objs.size + 1) :: us ++ []).length = ps.length := by
    rw [List.append_nil, List.length_cons, ← r.length, rv.length]
    exact F.len _ _ _ _ hq
  have bt := fun s' (k : G.K.In s'.heap) => hb s' (Value.ref (s.heap.objs.size + 1) :: us) k hl
  simp only [List.append_nil] at bt
  have e0 := I2.env0.make (G.adr c) us []
  rw [hK] at e0
  have lx : LX G _ (fun c fs h' => w c fs sl h') (fun cls d H' => LW G w cls d σ H') := fun c' fs d h' H' k rh' rx z => ⟨c', fs, sl, h', rfl, rx, (rs.keep m2.keep).keepT k, rh', z⟩
  refine wpAny_call (make_map (f := f) (by rw [← hK]; exact I.kIn : G.K.In s.heap) M.makes M.init (beq_iff_eq.mp M.fn) (codeAny_mono (F.run _ X.stack _ _ ⟨Value.ref (s.heap.objs.size + 1) :: us, []⟩ (Value.ref (s.heap.objs.size + 1) :: us) (V.ref (s.heap.objs.size + 1) :: vs) (fun v H2 => v = .non ∧ Q (.ref (s.heap.objs.size + 1)) H2) _ (hr.make (G.adr c) us []) e0
    (bt _ (by rw [← hK]; exact I2.kIn)) (.cons rfl r) ⟨_, _, _, _, RVs.cons.mpr ⟨_, _, rfl, rv_ref, rv.keep m2.keep⟩, rh2, hq, ?_, lx⟩) fun res s' hq' => ?_))
  · rintro d h' v H' k rh' rv' ⟨e1, z⟩
    subst e1
    exact ⟨rv'.non, lo _ _ _ _ (m2.trans k) rh' rv_ref z⟩
  · cases res with
    | error e => exact tk e s' (XE.of_call I2 (fun cls d H' z => z) hq')
    | ok fl => cases fl with
      | ret u =>
        obtain ⟨v, H', I3, ru, ev, q3⟩ := I2.after hq'
        subst ev
        exact ⟨ru, ⟨V.ref (s.heap.objs.size + 1), H', I3, rfl, q3⟩⟩
      | next => exact hq'.elim
      | brk => exact hq'.elim
      | cont => exact hq'.elim
theorem de_make {n c : Nat} {x : Str} {sp : DSp} {w : DW} {p pos : Pos} {e : Expr} {es : List Expr} {t : DTA} (F : XMk X G n c x sp) (hK : X.K = G.K) (hr : Rm (n + 1) X.A) (tk : Takes X (LW G w)) (ha : DA G X (e :: es) t) (hg : Gl X x := by rfl)
    (hdb : (x == ("__debug__" : Str)) = false := by decide) (he : starEach (e :: es) X.env = (false, eval e X.env) :: starEach es X.env := by rfl) (hpl : (backTo pos (starEach es X.env)).any (·.1) = false := by rfl) :
    DE G X (.Call (.Name x p) (e :: es) [] pos) (dMake c sp w t) := by
  obtain ⟨f, fd, ps, hm, M, hb, F⟩ := F
  refine ⟨fun pins s σ H Q I ⟨sl, h, q, rs, rh, hw, lo⟩ => ?_⟩
  refine wpAny_Call_Name_kw (ld_glob I hg hm ?_ hdb)
  refine PySem.W.callWith_K (h₀ := X.base) I.ok.mod.kin (by rw [hK]; exact M.kp) (thn (ha.run pos pins s σ H (fun vs H1 => ∃ ds h1, Mv H h H1 h1 ∧ RH G H1 h1 ∧ RVs G H1 ds vs ∧ ∀ p, h1 p = none → sp (.ref p :: ds) (dup h1 p (.ins c [])) (fun d h2 => d = .non ∧ q (.ref p) h2) fun c fs h' => w c fs sl h') I ⟨sl, h, _, rs, rh, hw, fun ds h1 vs H1 k1 rh1 rv1 t1 => ⟨ds, h1, k1, rh1, rv1, t1⟩⟩) fun us s1 ⟨vs, H1, I1, r, ds, h1, k1, rh1, rv1, t1⟩ => ⟨I1.kIn, ?_⟩) he hpl
  exact run_mk M F hK hr hb tk I1 r (rs.keep k1.keep) rh1 rv1 t1 (lo.keep k1)
theorem de_make0 {n c : Nat} {x : Str} {sp : DSp} {w : DW} {p pos : Pos} (F : XMk X G n c x sp) (hK : X.K = G.K) (hr : Rm (n + 1) X.A) (tk : Takes X (LW G w)) (hg : Gl X x := by rfl)
    (hdb : (x == ("__debug__" : Str)) = false := by decide) : DE G X (.Call (.Name x p) [] [] pos) (dMake c sp w dNil) := by
  obtain ⟨f, fd, ps, hm, M, hb, F⟩ := F
  refine ⟨fun pins s σ H Q I ⟨sl, h, q, rs, rh, hw, lo⟩ => ?_⟩
  refine wpAny_Call_Name_kw (ld_glob I hg hm ?_ hdb)
  exact PySem.W.callWith_K0 I.kIn (by rw [hK]; exact M.kp) (run_mk (us := []) M F hK hr hb tk I .nil rs rh (RVs.nil.mpr rfl) hw lo)
end

/-! ### a def's body -/
def wkQ (q : DQ) : DQ := fun d h => ∃ h', Le h' h ∧ q d h'
def wkX (x : DX) : DX := fun c fs h => ∃ h', Le h' h ∧ x c fs h'
def dstart (n : Nat) (ds : List D) : DS := ds.map some ++ List.replicate (n - ds.length) none
/-- what a body of n slots, m of them parameters, promises -/
def body (n m : Nat) (tb : DW → DTS) : DSp := fun ds h q x => ds.length = m ∧ tb (fun c fs _ h' => wkX x c fs h') { nx := fun _ h' => wkQ q .non h', rt := wkQ q } (dstart n ds) h
theorem rs_start {G : Gv} {H : Hp} {N : List Str} : ∀ {ds : List D} {vs : List V}, RVs G H ds vs → RS G H (dstart N.length ds) (L2.start N vs) := fun {ds vs} r => by
  have hl := r.length
  unfold dstart L2.start
  rw [hl]
  refine ⟨by simp [hl], fun i d e => ?_⟩
  by_cases hi : i < ds.length
  · rw [List.getElem?_append_left (by simpa using hi), List.getElem?_map] at e
    cases q : ds[i]? with
    | none => rw [q] at e; cases e
    | some d' =>
      rw [q] at e
      have : d' = d := by simpa using e
      subst this
      obtain ⟨v, v1, v2⟩ := r.get q
      exact ⟨v, by rw [List.getElem?_append_left (by simpa [hl] using hi), List.getElem?_map, v1]; rfl, v2⟩
  · rw [List.getElem?_append_right (by simpa using hi)] at e
    obtain ⟨hr, e'⟩ := List.getElem?_eq_some_iff.mp e
    rw [List.getElem_replicate] at e'
    cases e'
section
variable {P : Program} {w : World} {G : Gv} {mg : Str → Option Value} {base : Heap}
theorem fno_of {n : Nat} {f : Addr} {name qual : Str} {params : Arguments} {bd : List Stmt} {scope : Scope} {dV kV doc pm cdv ct oc : Value} {an od : Option Addr} {osl : Array (Option Value)} {N ps : List Str} {tb : DW → DTS}
    (lk : G.K.lookup f = some ⟨oc, od, .func (PySem.W.fnOf name qual params bd scope dV kV doc pm an cdv ct), osl⟩) (hcd : PySem.W.codeIn G.K cdv qual = true) (S : FnScope N ps scope)
    (hbody : ∀ (A : Around) (outer : List Env) (s : Shared) (H : Hp) (E : XK) (dw : DW), Rm n (A.deeper (envOfC qual scope s.heap.objs.size f cdv)) → PassesOwn (model P w) (A.deeper (envOfC qual scope s.heap.objs.size f cdv)) (envOfC qual scope s.heap.objs.size f cdv) (cxOf (L2.CX P w) P w G.K mg base N qual scope f cdv A outer s H E).xe → Takes (cxOf (L2.CX P w) P w G.K mg base N qual scope f cdv A outer s H E) (LW G dw) →
      DPs G (cxOf (L2.CX P w) P w G.K mg base N qual scope f cdv A outer s H E) bd (tb dw)) :
    FnO P w G mg base (n + 1) f (PySem.W.fnOf name qual params bd scope dV kV doc pm an cdv ct) ps (body N.length ps.length tb) := by
  refine ⟨fun ds h q x z => z.1, fun A outer s H args us vs Q E hr e0 hb r ⟨ds, h, q, x, rv, rh, ⟨hl, hsp⟩, lo, lx⟩ => ?_⟩
  have hlv : vs.length = ps.length := rv.length.trans hl
  have KX : G.K.In s.heap := e0.mod.kin.keeps fun b o e => (e0.bs b o e).1
  have lim : s.heap.NoLimit := e0.mod.nolimit.keeps fun b o e => (e0.bs b o e).1
  have kinds : ∀ y ∈ ps.zip us, scope.names.lookup y.1 = some .local ∨ (scope.names.lookup y.1 = some .cell ∧ ((cellsFrom (s.heap.objs.size + 1) scope.names []).lookup y.1).isSome = true) := fun ⟨m, v⟩ hy =>
    (S.par m (List.of_mem_zip hy).1).elim .inl fun q => .inr ⟨q, PySem.W.cellsFrom_some _ _ _ (.inl q)⟩
  refine codeAny_call_function hr.depth (KX _ _ lk) rfl S.co S.gen rfl (PySem.W.codeRec_of KX hcd) (hb _ _ _ _ ?_)
  refine wpAny_newFunctionEnv_cells S.kind kinds fun env he s1 ic => ?_
  subst he
  refine ⟨lim.keeps ic.toInCall.keep, codeAny_func ?_⟩
  have I : Inv (cxOf (L2.CX P w) P w G.K mg base N qual scope f cdv A outer s H E) [] (L2.start N vs) H s1 := inv_start S hr.hd e0 hlv r ic
  have tk : Takes (cxOf (L2.CX P w) P w G.K mg base N qual scope f cdv A outer s H E) (LW G fun c fs _ h' => wkX x c fs h') := by
    rintro u s' ⟨a, B, sI, pins, σ, H', cls, d, e, J, nb, up, sky, na, os, ag, c, fs, sl, h', ec, rx, rs, rh', h2, le, z⟩
    refine (takes_of (X := cxOf (L2.CX P w) P w G.K mg base N qual scope f cdv A outer s H E) rfl rfl rfl (E := E) rfl) u s' ⟨a, B, sI, pins, σ, H', cls, d, e, J, nb, up, sky, na, os, ag, ?_⟩
    subst ec
    refine lx c fs d h2 H' (fun b o l q => ?_) (rh'.le le) rx z
    cases o with
    | tup xs => exact J.base.tups b xs q
    | frz o u => exact J.base.frzs b o u q
    | _ => cases l
  refine wpAny_mono ((hbody A outer s H E _ (hr.deeper _) (passes_of (X := cxOf (L2.CX P w) P w G.K mg base N qual scope f cdv A outer s H E) rfl) tk).run [] s1 (L2.start N vs) H { nx := fun _ H' => Q .non H', rt := Q } I ⟨_, h, _, rs_start rv, rh, hsp, ?_⟩) (fun fl s' hs => ?_) fun e s' hs => hs
  · refine ⟨fun s2 h2 σ2 H2 k2 _ rh2 ⟨h3, le, z⟩ => lo _ _ _ _ (k2.le le) (rh2.le le) rv_non z, fun d2 h2 v2 H2 k2 rh2 rv2 ⟨h3, le, z⟩ => lo _ _ _ _ (k2.le le) (rh2.le le) rv2 z, fun _ _ _ _ _ _ _ z => z.elim, fun _ _ _ _ _ _ _ z => z.elim⟩
  have fin : ∀ {σ' : L2.St} {H' : Hp} {v : V} {u : Value}, Inv (cxOf (L2.CX P w) P w G.K mg base N qual scope f cdv A outer s H E) [] σ' H' s' → RelV v u → Q v H' → CE outer P w H s Q u s' :=
    fun {σ' H' v u} J rv q => ⟨v, H', J.os, J.bare, J.base, J.hok, rv, q⟩
  cases fl with
  | ret u => obtain ⟨v, σ', H', J, rv, q⟩ := hs; exact fin J rv q
  | next => obtain ⟨σ', H', J, q⟩ := hs; exact fin (v := V.non) (u := Value.none) J rfl q
  | brk => obtain ⟨_, _, _, q⟩ := hs; exact q.elim
  | cont => obtain ⟨_, _, _, q⟩ := hs; exact q.elim
end
end ML

set_option Elab.async false
set_option linter.all false
set_option maxRecDepth 100000
set_option maxHeartbeats 4000000
namespace ML
open PySem PySem.Spec PyProof.Rows L2

/-! ### operators upon data -/
def D.kind : D → Nat
  | .non => 0 | .bl _ => 1 | .int _ => 2 | .str _ => 3 | .tup _ => 4 | .ref _ => 5 | .cl _ => 6
def dAdd (x y : D) (h : DH) (q : DQ) : Prop := match x, y with
  | .int i, .int j => q (.int (i + j)) h
  | .str a, .str b => a.length + b.length ≤ sizeLine ∧ q (.str (a ++ b)) h
  | .tup a, .tup b => a.length + b.length ≤ sizeLine ∧ q (.tup (a ++ b)) h
  | .ref a, .ref b => ∃ xs ys, h a = some (.lst xs) ∧ h b = some (.lst ys) ∧ xs.length + ys.length ≤ sizeLine ∧ ∀ p, h p = none → q (.ref p) (dup h p (.lst (xs ++ ys)))
  | _, _ => False
theorem mkS_len (a : List Nat) : (mkS a).length = a.length := by simp [mkS, Str.length]
theorem mkS_app (a b : List Nat) : mkS a ++ mkS b = mkS (a ++ b) := by
  show (⟨(mkS a).cps ++ (mkS b).cps⟩ : Str) = _
  simp [mkS]
theorem mkS_inj {a b : List Nat} (e : mkS a = mkS b) : a = b := by
  have := congrArg (fun z : Str => z.cps.toList) e
  simpa [mkS] using this
theorem mkS_cps (a : List Nat) : (mkS a).cps.toList = a := by simp [mkS]
section
variable {G : Gv} {K : PySem.W.Frag}
def rAddAny (K : PySem.W.Frag) : R2 := fun x y H Q => (rI0 (fun i j => .int (i + j)) x y H Q ∨ (∃ i j, x = .str i ∧ y = .str j ∧ i.length + j.length ≤ sizeLine ∧ Q (.str (i ++ j)) H)) ∨ (rCatA K x y H Q ∨ rCat x y H Q)
theorem op_addAny {X : Cx} : OpR X (binaryOp .Add) (rAddAny X.K) := OpR.or (OpR.or op_add op_add_str) (OpR.or op_catA op_cat)
theorem dr_add : DR2 G (rAddAny G.K) dAdd := by
  intro x y vx vy H h q Q rx ry rh t lo
  cases x <;> cases y <;> try (exact False.elim t)
  · exact .inl (.inl ⟨_, _, rx.int, ry.int, lo _ _ _ _ .refl rh rv_int t⟩)
  · obtain ⟨hz, t⟩ := t
    refine .inl (.inr ⟨_, _, rx.str, ry.str, by rw [mkS_len, mkS_len]; exact hz, ?_⟩)
    rw [mkS_app]
    exact lo _ _ _ _ .refl rh rv_str t
  · obtain ⟨hz, t⟩ := t
    obtain ⟨a, xs, e1, ta, ra⟩ := rx.tup
    obtain ⟨b, ys, e2, tb, rb⟩ := ry.tup
    refine .inr (.inl ⟨a, b, xs, ys, e1, e2, ta.sq, tb.sq, by rw [ra.length, rb.length]; exact hz, fun e => ?_, fun _ e => ?_, fun _ _ p hp => ?_⟩)
    · subst e
      have := ra.length
      have e0 := List.length_eq_zero_iff.mp this.symm
      subst e0
      exact lo _ _ _ _ .refl rh (rv_tup tb rb) t
    · subst e
      have := rb.length
      have e0 := List.length_eq_zero_iff.mp this.symm
      subst e0
      rw [List.append_nil] at t
      exact lo _ _ _ _ .refl rh (rv_tup ta ra) t
    · exact lo _ _ _ _ (.new hp) (rh.new hp) (rv_tup (.inl upd_same) ((ra.append rb).keep (.new hp))) t
  · obtain ⟨xs, ys, e1, e2, hz, t⟩ := t
    obtain ⟨us, o1, r1⟩ := rh _ _ e1
    obtain ⟨vs, o2, r2⟩ := rh _ _ e2
    refine .inr (.inr ⟨_, _, us, vs, rx.ref, ry.ref, o1, o2, by rw [r1.length, r2.length]; exact hz, fun p hp => ?_⟩)
    exact lo _ _ _ _ (.newT hp) (rh.put (m := .lst (xs ++ ys)) (.new hp) ⟨_, upd_same, (r1.append r2).keep (.new hp)⟩) rv_ref (t p (rh.free hp))
/-- two ints, a value -/
def dI (C : Int → Int → Prop) (g : Int → Int → D) (x y : D) (h : DH) (q : DQ) : Prop := match x, y with
  | .int i, .int j => C i j ∧ q (g i j) h
  | _, _ => False
theorem dr_I {C C' : Int → Int → Prop} {g : Int → Int → D} {gv : Int → Int → V} (hC : ∀ i j, C i j → C' i j) (hg : ∀ H i j, RV G H (g i j) (gv i j)) : DR2 G (rI C' gv) (dI C g) := by
  intro x y vx vy H h q Q rx ry rh t lo
  cases x <;> cases y <;> try (exact False.elim t)
  exact ⟨_, _, rx.int, ry.int, hC _ _ t.1, lo _ _ _ _ .refl rh (hg H _ _) t.2⟩
def dI0 (g : Int → Int → D) (x y : D) (h : DH) (q : DQ) : Prop := match x, y with
  | .int i, .int j => q (g i j) h
  | _, _ => False
theorem dr_I0 {g : Int → Int → D} {gv : Int → Int → V} (hg : ∀ H i j, RV G H (g i j) (gv i j)) : DR2 G (rI0 gv) (dI0 g) := by
  intro x y vx vy H h q Q rx ry rh t lo
  cases x <;> cases y <;> try (exact False.elim t)
  exact ⟨_, _, rx.int, ry.int, lo _ _ _ _ .refl rh (hg H _ _) t⟩
abbrev dSub := dI0 fun i j => .int (i - j)
def CMulD (i j : Int) : Prop := (-(2 ^ 64) < i ∧ i < 2 ^ 64) ∨ (-(2 ^ 64) < j ∧ j < 2 ^ 64)
/-- n * m, text * n, list * n -/
def dMul (x y : D) (h : DH) (q : DQ) : Prop := match x, y with
  | .int i, .int j => CMulD i j ∧ q (.int (i * j)) h
  | .str a, .int n => n < 1000000 ∧ -1000000 < n ∧ a.length * n.toNat ≤ sizeLine ∧ q (.str (List.replicate n.toNat a).flatten) h
  | .ref a, .int n => ∃ xs, h a = some (.lst xs) ∧ n < 1000000 ∧ -1000000 < n ∧ xs.length * n.toNat ≤ sizeLine ∧ ∀ p, h p = none → q (.ref p) (dup h p (.lst (List.replicate n.toNat xs).flatten))
  | _, _ => False
theorem RVs.rep {H : Hp} {ds : List D} {vs : List V} (r : RVs G H ds vs) : ∀ k : Nat, RVs G H (List.replicate k ds).flatten (List.replicate k vs).flatten
  | 0 => RVs.nil.mpr rfl
  | k + 1 => by rw [List.replicate_succ, List.replicate_succ, List.flatten_cons, List.flatten_cons]; exact r.append (r.rep k)
theorem foldl_cat (x : Array Nat) : ∀ (k : Nat) (acc : Array Nat), ((List.replicate k x).foldl (· ++ ·) acc).toList = acc.toList ++ (List.replicate k x.toList).flatten
  | 0, acc => by simp
  | k + 1, acc => by
    rw [List.replicate_succ, List.foldl_cons, foldl_cat x k, List.replicate_succ, List.flatten_cons, Array.toList_append, List.append_assoc]
theorem txt_mul (a : List Nat) (n : Int) : Txt.mul (mkS a) n = mkS (List.replicate n.toNat a).flatten := by
  unfold Txt.mul
  split
  · rename_i h
    have : n.toNat = 0 := by omega
    rw [this]; rfl
  · split
    · rename_i h1 h2
      rcases Bool.or_eq_true_iff.mp h2 with z | z
      · have e : n = 1 := by simpa using z
        subst e; simp
      · have e : a.length = 0 := by simpa [mkS_len] using z
        have := List.length_eq_zero_iff.mp e
        subst this
        have : ∀ k : Nat, (List.replicate k ([] : List Nat)).flatten = [] := fun k => by simp
        rw [this]
    · have := foldl_cat (mkS a).cps n.toNat #[]
      have e : ((List.replicate n.toNat (mkS a).cps).foldl (· ++ ·) #[]) = (List.replicate n.toNat a).flatten.toArray := by
        apply Array.ext'
        rw [this]; simp [mkS]
      rw [e]; rfl
theorem op_mul_str {X : Cx} : OpR X (binaryOp .Mult) (fun x y H Q => ∃ z n, x = .str z ∧ y = .int n ∧ MulOk z n ∧ Q (.str (Txt.mul z n)) H) := by
  intro pins s σ H x y v u Q I rx ry ⟨z, n, e1, e2, ok, q⟩
  subst e1 e2
  obtain ⟨t, rfl⟩ := rx
  obtain ⟨t', rfl⟩ := ry
  exact SB.mul ok fun t' k => ⟨.str _, H, I.tok _, ⟨_, rfl⟩, q⟩
theorem mulOk_of {a : List Nat} {n : Int} (h1 : n < 1000000) (h2 : -1000000 < n) (h3 : a.length * n.toNat ≤ sizeLine) : MulOk (mkS a) n := by
  refine ⟨?_, fun hn _ => ?_, fun _ _ => ?_⟩
  · have a1 : decide (n < -(2 ^ 63 : Int)) = false := decide_eq_false (by omega)
    have a2 : decide (n ≥ 2 ^ 63) = false := decide_eq_false (by omega)
    rw [a1, a2]; rfl
  · rw [mkS_len]
    have h4 : (a.length : Int) * n ≤ 16777216 := by
      have : ((a.length * n.toNat : Nat) : Int) ≤ 16777216 := by rw [sizeLine_eq] at h3; omega
      rw [Int.natCast_mul] at this
      have e : ((n.toNat : Nat) : Int) = n := by omega
      rw [e] at this; exact this
    have h5 : (a.length : Int) ≤ 16777216 := by
      have h0 : (1 : Int) ≤ n := by omega
      have : (a.length : Int) * 1 ≤ (a.length : Int) * n := Int.mul_le_mul_of_nonneg_left h0 (by omega)
      omega
    have h6 : (16777216 : Int) ≤ (2 ^ 63 - 1) / n := by
      apply (Int.le_ediv_iff_mul_le (by omega)).mpr
      omega
    omega
  · rw [mkS_len]
    exact decide_eq_false (Nat.not_lt.mpr h3)
def rMulAny : R2 := fun x y H Q => rI CMul (fun i j => .int (i * j)) x y H Q ∨ ((∃ z n, x = .str z ∧ y = .int n ∧ MulOk z n ∧ Q (.str (Txt.mul z n)) H) ∨ rRep x y H Q)
theorem op_mulAny {X : Cx} : OpR X (binaryOp .Mult) rMulAny := OpR.or op_mul (OpR.or op_mul_str op_rep)
theorem dr_mul : DR2 G rMulAny dMul := by
  intro x y vx vy H h q Q rx ry rh t lo
  cases x <;> cases y <;> try (exact False.elim t)
  · exact .inl ⟨_, _, rx.int, ry.int, t.1, lo _ _ _ _ .refl rh rv_int t.2⟩
  · obtain ⟨h1, h2, h3, t⟩ := t
    refine .inr (.inl ⟨_, _, rx.str, ry.int, mulOk_of h1 h2 h3, ?_⟩)
    rw [txt_mul]
    exact lo _ _ _ _ .refl rh rv_str t
  · obtain ⟨xs, e1, h1, h2, h3, t⟩ := t
    obtain ⟨us, o1, r1⟩ := rh _ _ e1
    refine .inr (.inr ⟨_, _, us, rx.ref, ry.int, o1, by omega, by omega, by rw [r1.length]; exact h3, fun p hp => ?_⟩)
    exact lo _ _ _ _ (.newT hp) (rh.put (m := .lst (List.replicate _ xs).flatten) (.new hp) ⟨_, upd_same, (r1.rep _).keep (.new hp)⟩) rv_ref (t p (rh.free hp))
def CDivD (_ j : Int) : Prop := 0 < j ∧ j < 2 ^ 64
abbrev dDiv := dI CDivD fun i j => .int (i / j)
abbrev dMod := dI (fun _ j => 0 < j) fun i j => .int (i % j)
abbrev dPow := dI CPow fun i j => .int (i ^ j.toNat)
theorem dr_sub : DR2 G (rI0 fun i j => .int (i - j)) dSub := dr_I0 fun _ _ _ => rv_int
theorem dr_div : DR2 G (rI CDivW fun i j => .int (i / j)) dDiv := dr_I (fun i j h => wide_div (b := 64) h.1 (by have := h.1; have := h.2; omega) (by decide) (by decide)) fun _ _ _ => rv_int
theorem dr_mod : DR2 G (rI (fun _ j => 0 < j) fun i j => .int (i % j)) dMod := dr_I (fun _ _ h => h) fun _ _ _ => rv_int
theorem dr_pow : DR2 G (rI CPow fun i j => .int (i ^ j.toNat)) dPow := dr_I (fun _ _ h => h) fun _ _ _ => rv_int
abbrev dLt := dI0 fun i j => .bl (decide (i < j))
abbrev dLe := dI0 fun i j => .bl (decide (i ≤ j))
abbrev dGt := dI0 fun i j => .bl (decide (j < i))
abbrev dGe := dI0 fun i j => .bl (decide (j ≤ i))
theorem dr_lt : DR2 G (rI0 fun i j => .bl (decide (i < j))) dLt := dr_I0 fun _ _ _ => rv_bl
theorem dr_le : DR2 G (rI0 fun i j => .bl (decide (i ≤ j))) dLe := dr_I0 fun _ _ _ => rv_bl
theorem dr_gt : DR2 G (rI0 fun i j => .bl (decide (j < i))) dGt := dr_I0 fun _ _ _ => rv_bl
theorem dr_ge : DR2 G (rI0 fun i j => .bl (decide (j ≤ i))) dGe := dr_I0 fun _ _ _ => rv_bl
end
/-- - n -/
def dNeg (x : D) (h : DH) (q : DQ) : Prop := match x with
  | .int i => q (.int (-i)) h
  | _ => False
section
variable {G : Gv} {X : Cx} {a b : Expr} {ta tb : DTE} {pos : Pos}
theorem de_neg (ha : DE G X a ta) : DE G X (.UnaryOp .USub a pos) (dUn dNeg ta) := imE (pe_un un_neg ha) fun σ H Q h => un_low (r := rU fun i => .int (-i)) (fun x vx H h q Q rx rh t lo => by
  cases x <;> try (exact False.elim t)
  exact ⟨_, rx.int, lo _ _ _ _ .refl rh rv_int t⟩) h
theorem de_add (hK : X.K = G.K) (ha : DE G X a ta) (hb : DE G X b tb) : DE G X (.BinOp a .Add b pos) (dOp dAdd ta tb) := de_bin (r := rAddAny G.K) (by rw [← hK]; exact op_addAny) dr_add ha hb
theorem de_sub (ha : DE G X a ta) (hb : DE G X b tb) : DE G X (.BinOp a .Sub b pos) (dOp dSub ta tb) := de_bin op_sub dr_sub ha hb
theorem de_mul (ha : DE G X a ta) (hb : DE G X b tb) : DE G X (.BinOp a .Mult b pos) (dOp dMul ta tb) := de_bin op_mulAny dr_mul ha hb
theorem de_div (ha : DE G X a ta) (hb : DE G X b tb) : DE G X (.BinOp a .FloorDiv b pos) (dOp dDiv ta tb) := de_bin op_fdivW dr_div ha hb
theorem de_mod (ha : DE G X a ta) (hb : DE G X b tb) : DE G X (.BinOp a .Mod b pos) (dOp dMod ta tb) := de_bin op_mod dr_mod ha hb
theorem de_pow (ha : DE G X a ta) (hb : DE G X b tb) : DE G X (.BinOp a .Pow b pos) (dOp dPow ta tb) := de_bin op_pow dr_pow ha hb
theorem de_lt (ha : DE G X a ta) (hb : DE G X b tb) : DE G X (.Compare a [.Lt] [b] pos) (dOp dLt ta tb) := de_cmp op_lt dr_lt ha hb (nomark _)
theorem de_le (ha : DE G X a ta) (hb : DE G X b tb) : DE G X (.Compare a [.LtE] [b] pos) (dOp dLe ta tb) := de_cmp op_le dr_le ha hb (nomark _)
theorem de_gt (ha : DE G X a ta) (hb : DE G X b tb) : DE G X (.Compare a [.Gt] [b] pos) (dOp dGt ta tb) := de_cmp op_gt dr_gt ha hb (nomark _)
theorem de_ge (ha : DE G X a ta) (hb : DE G X b tb) : DE G X (.Compare a [.GtE] [b] pos) (dOp dGe ta tb) := de_cmp op_ge dr_ge ha hb (nomark _)
end

/-! ### == of data -/
mutual
/-- what a value comes to, lists looked through -/
inductive Rs (h : DH) : D → PyData → Prop
  | non : Rs h .non .none
  | bl (b : Bool) : Rs h (.bl b) (.bool b)
  | int (i : Int) : Rs h (.int i) (.int i)
  | str (x : List Nat) : Rs h (.str x) (.str (mkS x))
  | tup {ds : List D} {ps : List PyData} : RsAll h ds ps → Rs h (.tup ds) (.tuple ps)
  | cl {ds : List D} {ps : List PyData} : RsAll h ds ps → Rs h (.cl ds) (.list ps)
  | lst {a : Addr} {ds : List D} {ps : List PyData} : h a = some (.lst ds) → RsAll h ds ps → Rs h (.ref a) (.list ps)
inductive RsAll (h : DH) : List D → List PyData → Prop
  | nil : RsAll h [] []
  | cons {d : D} {ds : List D} {p : PyData} {ps : List PyData} : Rs h d p → RsAll h ds ps → RsAll h (d :: ds) (p :: ps)
end
section
variable {G : Gv} {H : Hp} {h : DH}
mutual
theorem Rs.dp (rh : RH G H h) : ∀ {d : D} {p : PyData} {v : V}, Rs h d p → RV G H d v → Dp G.K H v p
  | _, _, _, .non, r => by rw [r.non]; exact .non
  | _, _, _, .bl b, r => by rw [r.bl]; exact .bl b
  | _, _, _, .int i, r => by rw [r.int]; exact .int i
  | _, _, _, .str x, r => by rw [r.str]; exact .str _
  | _, _, _, .tup s, r => by
    obtain ⟨a, xs, e, t, z⟩ := r.tup
    rw [e]; exact .tup t.sq (RsAll.dp rh s z)
  | _, _, _, .cl s, r => by
    simp only [RV] at r
    obtain ⟨a, xs, e, t, z⟩ := r
    rw [e]; exact .lst t.sq (RsAll.dp rh s z)
  | _, _, _, .lst e s, r => by
    obtain ⟨xs, o, z⟩ := rh _ _ e
    rw [r.ref]; exact .lst (SqL.of o) (RsAll.dp rh s z)
theorem RsAll.dp (rh : RH G H h) : ∀ {ds : List D} {ps : List PyData} {vs : List V}, RsAll h ds ps → RVs G H ds vs → DpAll G.K H vs ps
  | _, _, _, .nil, r => by rw [RVs.nil.mp r]; exact .nil
  | _, _, _, .cons s ss, r => by
    obtain ⟨v, vs, e, r1, r2⟩ := RVs.cons.mp r
    rw [e]; exact .cons (Rs.dp rh s r1) (RsAll.dp rh ss r2)
end
end
/-- what == answers -/
def eqC (x y : D) (h : DH) (k : Bool → Prop) : Prop := match x, y with
  | .int i, .int j => k (decide (i = j))
  | .str a, .str b => k (decide (a = b))
  | .bl a, .bl b => k (decide (a = b))
  | .non, .non => k true
  | .non, .int _ => k false | .int _, .non => k false | .non, .bl _ => k false | .bl _, .non => k false | .non, .str _ => k false | .str _, .non => k false
  | .int _, .str _ => k false | .str _, .int _ => k false | .bl _, .str _ => k false | .str _, .bl _ => k false
  | x, y => ∃ p r, Rs h x p ∧ Rs h y r ∧ SeqAt.shaped p = true ∧ SeqAt.shaped r = true ∧ k (PyData.eqv p r)
def dEq (x y : D) (h : DH) (q : DQ) : Prop := eqC x y h fun b => q (.bl b) h
def dNe (x y : D) (h : DH) (q : DQ) : Prop := eqC x y h fun b => q (.bl (!b)) h
section
variable {G : Gv}
theorem eqC_low {x y : D} {vx vy : V} {H : Hp} {h : DH} {k : Bool → Prop} (rx : RV G H x vx) (ry : RV G H y vy) (rh : RH G H h) (t : eqC x y h k) :
    (scal vx vy = true ∧ k (decide (vx = vy))) ∨ ∃ d e, Dp G.K H vx d ∧ Dp G.K H vy e ∧ SeqAt.shaped d = true ∧ SeqAt.shaped e = true ∧ k (PyData.eqv d e) := by
  have deep : (∃ p r, Rs h x p ∧ Rs h y r ∧ SeqAt.shaped p = true ∧ SeqAt.shaped r = true ∧ k (PyData.eqv p r)) → ∃ d e, Dp G.K H vx d ∧ Dp G.K H vy e ∧ SeqAt.shaped d = true ∧ SeqAt.shaped e = true ∧ k (PyData.eqv d e) :=
    fun ⟨p, r, r1, r2, s1, s2, z⟩ => ⟨p, r, r1.dp rh rx, r2.dp rh ry, s1, s2, z⟩
  cases x <;> cases y <;> first
    | exact .inr (deep t)
    | (refine .inl ?_
       simp only [RV] at rx ry
       subst rx ry
       refine ⟨rfl, ?_⟩
       first
         | exact t
         | (have e : ∀ a b : List Nat, decide (V.str (mkS a) = V.str (mkS b)) = decide (a = b) := fun a b => by
              by_cases z : a = b
              · subst z; simp
              · rw [decide_eq_false z, decide_eq_false (fun q => z (mkS_inj (V.str.inj q)))]
            rw [e]; exact t)
         | (have e : ∀ a b : Int, decide (V.int a = V.int b) = decide (a = b) := fun a b => by
              by_cases z : a = b
              · subst z; simp
              · rw [decide_eq_false z, decide_eq_false (fun q => z (V.int.inj q))]
            rw [e]; exact t)
         | (have e : ∀ a b : Bool, decide (V.bl a = V.bl b) = decide (a = b) := fun a b => by
              cases a <;> cases b <;> rfl
            rw [e]; exact t)
         | (rw [decide_eq_true rfl]; exact t)
         | (rw [decide_eq_false (fun q => by cases q)]; exact t))
def rEqAny (K : PySem.W.Frag) : R2 := fun x y H Q => rEq x y H Q ∨ rEqD K x y H Q
def rNeAny (K : PySem.W.Frag) : R2 := fun x y H Q => rNe x y H Q ∨ rNeD K x y H Q
theorem dr_eq : DR2 G (rEqAny G.K) dEq := by
  intro x y vx vy H h q Q rx ry rh t lo
  rcases eqC_low rx ry rh t with ⟨s, z⟩ | ⟨d, e, r1, r2, s1, s2, z⟩
  · exact .inl ⟨s, lo _ _ _ _ .refl rh rv_bl z⟩
  · exact .inr ⟨d, e, r1, r2, s1, s2, lo _ _ _ _ .refl rh rv_bl z⟩
theorem dr_ne : DR2 G (rNeAny G.K) dNe := by
  intro x y vx vy H h q Q rx ry rh t lo
  rcases eqC_low rx ry rh t with ⟨s, z⟩ | ⟨d, e, r1, r2, s1, s2, z⟩
  · exact .inl ⟨s, lo _ _ _ _ .refl rh rv_bl z⟩
  · exact .inr ⟨d, e, r1, r2, s1, s2, lo _ _ _ _ .refl rh rv_bl z⟩
variable {X : Cx} {a b : Expr} {ta tb : DTE} {pos : Pos} {n : Nat}
theorem de_eq (hK : X.K = G.K) (hr : Rm n X.A) (ha : DE G X a ta) (hb : DE G X b tb) : DE G X (.Compare a [.Eq] [b] pos) (dOp dEq ta tb) := de_cmp (r := rEqAny G.K) (by rw [← hK]; exact OpR.or op_eq (op_eqD hr.units)) dr_eq ha hb (nomark _)
theorem de_ne (hK : X.K = G.K) (hr : Rm n X.A) (ha : DE G X a ta) (hb : DE G X b tb) : DE G X (.Compare a [.NotEq] [b] pos) (dOp dNe ta tb) := de_cmp (r := rNeAny G.K) (by rw [← hK]; exact OpR.or op_ne (op_neD hr.units)) dr_ne ha hb (nomark _)
end
end ML

set_option Elab.async false
set_option linter.all false
set_option maxRecDepth 100000
set_option maxHeartbeats 4000000
namespace ML
open PySem PySem.Spec PyProof.Rows L2

mutual
def D.dec : (x y : D) → Decidable (x = y)
  | .non, .non => Decidable.isTrue rfl
  | .bl a, .bl b => if e : a = b then Decidable.isTrue (by rw [e]) else Decidable.isFalse fun z => e (by injection z)
  | .int a, .int b => if e : a = b then Decidable.isTrue (by rw [e]) else Decidable.isFalse fun z => e (by injection z)
  | .str a, .str b => if e : a = b then Decidable.isTrue (by rw [e]) else Decidable.isFalse fun z => e (by injection z)
  | .ref a, .ref b => if e : a = b then Decidable.isTrue (by rw [e]) else Decidable.isFalse fun z => e (by injection z)
  | .tup a, .tup b => match D.decL a b with
    | Decidable.isTrue e => Decidable.isTrue (by rw [e])
    | Decidable.isFalse e => Decidable.isFalse fun z => e (by injection z)
  | .cl a, .cl b => match D.decL a b with
    | Decidable.isTrue e => Decidable.isTrue (by rw [e])
    | Decidable.isFalse e => Decidable.isFalse fun z => e (by injection z)
  | .non, .bl _ | .non, .int _ | .non, .str _ | .non, .tup _ | .non, .ref _ | .non, .cl _ => Decidable.isFalse fun z => by cases z
  | .bl _, .non | .bl _, .int _ | .bl _, .str _ | .bl _, .tup _ | .bl _, .ref _ | .bl _, .cl _ => Decidable.isFalse fun z => by cases z
  | .int _, .non | .int _, .bl _ | .int _, .str _ | .int _, .tup _ | .int _, .ref _ | .int _, .cl _ => Decidable.isFalse fun z => by cases z
  | .str _, .non | .str _, .bl _ | .str _, .int _ | .str _, .tup _ | .str _, .ref _ | .str _, .cl _ => Decidable.isFalse fun z => by cases z
  | .tup _, .non | .tup _, .bl _ | .tup _, .int _ | .tup _, .str _ | .tup _, .ref _ | .tup _, .cl _ => Decidable.isFalse fun z => by cases z
  | .ref _, .non | .ref _, .bl _ | .ref _, .int _ | .ref _, .str _ | .ref _, .tup _ | .ref _, .cl _ => Decidable.isFalse fun z => by cases z
  | .cl _, .non | .cl _, .bl _ | .cl _, .int _ | .cl _, .str _ | .cl _, .tup _ | .cl _, .ref _ => Decidable.isFalse fun z => by cases z
def D.decL : (x y : List D) → Decidable (x = y)
  | [], [] => Decidable.isTrue rfl
  | [], _ :: _ => Decidable.isFalse fun z => by cases z
  | _ :: _, [] => Decidable.isFalse fun z => by cases z
  | a :: r, b :: t => match D.dec a b, D.decL r t with
    | Decidable.isTrue e, Decidable.isTrue f => Decidable.isTrue (by rw [e, f])
    | Decidable.isFalse e, _ => Decidable.isFalse fun z => e (by injection z)
    | _, Decidable.isFalse f => Decidable.isFalse fun z => f (by injection z)
end
instance : DecidableEq D := D.dec

/-! ### is None, in -/
def isNon : D → Bool
  | .non => true
  | _ => false
def dIsN (x y : D) (h : DH) (q : DQ) : Prop := y = .non ∧ q (.bl (isNon x)) h
def dNotN (x y : D) (h : DH) (q : DQ) : Prop := y = .non ∧ q (.bl (!isNon x)) h
theorem isNon_low {G : Gv} {H : Hp} {x : D} {v : V} (r : RV G H x v) : decide (v = .non) = isNon x := by
  cases x <;> simp only [RV] at r
  case non => subst r; rfl
  case tup => obtain ⟨a, xs, e, _⟩ := r; subst e; rfl
  case cl => obtain ⟨a, xs, e, _⟩ := r; subst e; rfl
  all_goals (subst r; rfl)
def D.flat : D → Bool
  | .non => true | .bl _ => true | .int _ => true | .str _ => true
  | _ => false
def eqF : D → D → Bool
  | .non, .non => true
  | .bl a, .bl b => a == b
  | .bl a, .int b => (if a then 1 else 0) == b
  | .int a, .bl b => a == (if b then 1 else 0)
  | .int a, .int b => decide (a = b)
  | .str a, .str b => decide (a = b)
  | _, _ => false
def inC (x y : D) (h : DH) (k : Bool → Prop) : Prop := match y with
  | .str z => ∃ c, x = .str [c] ∧ k (decide (c ∈ z))
  | .tup ds => x.flat = true ∧ ds.all D.flat = true ∧ k (ds.any fun d => eqF d x)
  | .cl ds => x.flat = true ∧ ds.all D.flat = true ∧ k (ds.any fun d => eqF d x)
  | .ref a => ∃ ds, h a = some (.lst ds) ∧ ((x.flat = true ∧ ds.all D.flat = true ∧ k (ds.any fun d => eqF d x)) ∨
      ∃ p ps, Rs h x p ∧ RsAll h ds ps ∧ SeqAt.shaped p = true ∧ SeqAt.shaped (.list ps) = true ∧ k (ps.any fun z => PyData.eqv z p))
  | _ => False
def dIn (x y : D) (h : DH) (q : DQ) : Prop := inC x y h fun b => q (.bl b) h
def dNin (x y : D) (h : DH) (q : DQ) : Prop := inC x y h fun b => q (.bl (!b)) h
section
variable {G : Gv} {H : Hp} {h : DH}
theorem flat_low {x : D} {v : V} (r : RV G H x v) (f : x.flat = true) : flatV v = true := by
  cases x <;> simp only [RV] at r
  all_goals first
    | (subst r; rfl)
    | cases f
theorem flats_low : ∀ {xs : List D} {vs : List V}, RVs G H xs vs → xs.all D.flat = true → vs.all flatV = true
  | [], _, r, _ => by rw [RVs.nil.mp r]; rfl
  | d :: ds, _, r, f => by
    obtain ⟨v, vs, e, r1, r2⟩ := RVs.cons.mp r
    subst e
    rw [List.all_cons, Bool.and_eq_true] at f ⊢
    exact ⟨flat_low r1 f.1, flats_low r2 f.2⟩
theorem eqF_low {x y : D} {v u : V} (r : RV G H x v) (s : RV G H y u) (f : x.flat = true) (g : y.flat = true) : eqV v u = eqF x y := by
  have es : ∀ a b : List Nat, (mkS a == mkS b) = decide (a = b) := fun a b => by
    by_cases z : a = b
    · subst z; simp
    · rw [decide_eq_false z, beq_eq_false_iff_ne]; exact fun q => z (mkS_inj q)
  have ei : ∀ a b : Int, (a == b) = decide (a = b) := fun a b => by
    by_cases z : a = b
    · subst z; simp
    · rw [decide_eq_false z, beq_eq_false_iff_ne]; exact z
  cases x <;> cases y <;> first
    | (cases f; done)
    | (cases g; done)
    | (simp only [RV] at r s
       subst r s
       first
         | rfl
         | exact es _ _
         | exact ei _ _)
theorem inF_low {x : D} {v : V} (r : RV G H x v) (f : x.flat = true) : ∀ {xs : List D} {vs : List V}, RVs G H xs vs → xs.all D.flat = true → inV v vs = xs.any fun d => eqF d x
  | [], _, rs, _ => by rw [RVs.nil.mp rs]; rfl
  | d :: ds, _, rs, g => by
    obtain ⟨u, us, e, r1, r2⟩ := RVs.cons.mp rs
    subst e
    rw [List.all_cons, Bool.and_eq_true] at g
    have ih := inF_low r f r2 g.2
    unfold inV at ih ⊢
    rw [List.any_cons, List.any_cons, ih, eqF_low r1 r g.1 f]
def rInAny (K : PySem.W.Frag) : R2 := fun x y H Q => rIn K false x y H Q ∨ (rInD K x y H Q ∨ ∃ (c : Nat) (z : Str), x = .str ⟨#[c]⟩ ∧ y = .str z ∧ Q (.bl (decide (c ∈ z.cps.toList))) H)
def rNinAny (K : PySem.W.Frag) : R2 := fun x y H Q => rIn K true x y H Q ∨ (rNotInD K x y H Q ∨ ∃ (c : Nat) (z : Str), x = .str ⟨#[c]⟩ ∧ y = .str z ∧ Q (.bl (!decide (c ∈ z.cps.toList))) H)
theorem inC_low {x y : D} {v u : V} {k : Bool → Prop} (rx : RV G H x v) (ry : RV G H y u) (rh : RH G H h) (t : inC x y h k) :
    (∃ p xs, u = .ref p ∧ (SqL G.K H p xs ∨ SqT G.K H p xs) ∧ flatV v = true ∧ xs.all flatV = true ∧ k (inV v xs)) ∨
    (∃ d ds, Dp G.K H v d ∧ Dp G.K H u (.list ds) ∧ SeqAt.shaped d = true ∧ SeqAt.shaped (.list ds) = true ∧ k (ds.any fun z => PyData.eqv z d)) ∨
    ∃ (c : Nat) (z : Str), v = .str ⟨#[c]⟩ ∧ u = .str z ∧ k (decide (c ∈ z.cps.toList)) := by
  cases y with
  | str z =>
    obtain ⟨c, e, t⟩ := t
    subst e
    exact .inr (.inr ⟨c, _, rx.str, ry.str, by rw [mkS_cps]; exact t⟩)
  | tup ds =>
    obtain ⟨f, g, t⟩ := t
    obtain ⟨a, xs, e, ta, ra⟩ := ry.tup
    exact .inl ⟨a, xs, e, .inr ta.sq, flat_low rx f, flats_low ra g, by rw [inF_low rx f ra g]; exact t⟩
  | cl ds =>
    obtain ⟨f, g, t⟩ := t
    simp only [RV] at ry
    obtain ⟨a, xs, e, ta, ra⟩ := ry
    exact .inl ⟨a, xs, e, .inl ta.sq, flat_low rx f, flats_low ra g, by rw [inF_low rx f ra g]; exact t⟩
  | ref a =>
    obtain ⟨ds, e, t⟩ := t
    obtain ⟨xs, o, ra⟩ := rh _ _ e
    rcases t with ⟨f, g, t⟩ | ⟨p, ps, r1, r2, s1, s2, t⟩
    · exact .inl ⟨a, xs, ry.ref, .inl (SqL.of o), flat_low rx f, flats_low ra g, by rw [inF_low rx f ra g]; exact t⟩
    · exact .inr (.inl ⟨p, ps, r1.dp rh rx, by rw [ry.ref]; exact .lst (SqL.of o) (r2.dp rh ra), s1, s2, t⟩)
  | _ => exact t.elim
theorem dr_in : DR2 G (rInAny G.K) dIn := by
  intro x y vx vy H h q Q rx ry rh t lo
  have fin : ∀ b, q (.bl b) h → Q (.bl b) H := fun b z => lo _ _ _ _ .refl rh rv_bl z
  rcases inC_low rx ry rh t with ⟨p, xs, e, s, f, g, z⟩ | ⟨d, ds, r1, r2, s1, s2, z⟩ | ⟨c, z, e1, e2, t⟩
  · exact .inl ⟨p, xs, e, s, f, g, fin _ z⟩
  · exact .inr (.inl ⟨d, ds, r1, r2, s1, s2, fin _ z⟩)
  · exact .inr (.inr ⟨c, z, e1, e2, fin _ t⟩)
theorem dr_nin : DR2 G (rNinAny G.K) dNin := by
  intro x y vx vy H h q Q rx ry rh t lo
  have fin : ∀ b, q (.bl b) h → Q (.bl b) H := fun b z => lo _ _ _ _ .refl rh rv_bl z
  rcases inC_low rx ry rh t with ⟨p, xs, e, s, f, g, z⟩ | ⟨d, ds, r1, r2, s1, s2, z⟩ | ⟨c, z, e1, e2, t⟩
  · exact .inl ⟨p, xs, e, s, f, g, fin _ z⟩
  · exact .inr (.inl ⟨d, ds, r1, r2, s1, s2, fin _ z⟩)
  · exact .inr (.inr ⟨c, z, e1, e2, fin _ t⟩)
end
section
variable {G : Gv} {X : Cx} {a b : Expr} {ta tb : DTE} {pos : Pos} {n : Nat}
theorem de_in (hK : X.K = G.K) (hr : Rm n X.A) (ha : DE G X a ta) (hb : DE G X b tb) (hm : behindInMarks .In b = false := by rfl) : DE G X (.Compare a [.In] [b] pos) (dOp dIn ta tb) :=
  de_cmp (r := rInAny G.K) (by rw [← hK]; exact OpR.or op_in_seq (OpR.or (op_inD (by have := hr.un; omega)) op_in_sign)) dr_in ha hb hm
theorem de_nin (hK : X.K = G.K) (hr : Rm n X.A) (ha : DE G X a ta) (hb : DE G X b tb) (hm : behindInMarks .NotIn b = false := by rfl) : DE G X (.Compare a [.NotIn] [b] pos) (dOp dNin ta tb) :=
  de_cmp (r := rNinAny G.K) (by rw [← hK]; exact OpR.or op_notIn_seq (OpR.or (op_notInD (by have := hr.un; omega)) op_notIn_sign)) dr_nin ha hb hm
theorem de_isN (ha : DE G X a ta) (hb : DE G X b tb) : DE G X (.Compare a [.Is] [b] pos) (dOp dIsN ta tb) :=
  de_cmp op_isN (fun x y vx vy H h q Q rx ry rh t lo => by obtain ⟨e, t⟩ := t; subst e; exact ⟨ry.non, by rw [isNon_low rx]; exact lo _ _ _ _ .refl rh rv_bl t⟩) ha hb (nomark _)
theorem de_notN (ha : DE G X a ta) (hb : DE G X b tb) : DE G X (.Compare a [.IsNot] [b] pos) (dOp dNotN ta tb) :=
  de_cmp op_notN (fun x y vx vy H h q Q rx ry rh t lo => by obtain ⟨e, t⟩ := t; subst e; exact ⟨ry.non, by rw [isNon_low rx]; exact lo _ _ _ _ .refl rh rv_bl t⟩) ha hb (nomark _)
end

/-! ### subscripts -/
def seqOf (x : D) (h : DH) : Option (List D) := match x with
  | .tup ds => some ds
  | .cl ds => some ds
  | .ref a => match h a with
    | some (.lst ds) => some ds
    | _ => none
  | _ => none
def dIx (x y : D) (h : DH) (q : DQ) : Prop := match x, y with
  | .str z, .int i => z.length ≤ sizeLine ∧ ∃ c, atI z i = some c ∧ q (.str [c]) h
  | x, .int i => ∃ ds d, seqOf x h = some ds ∧ atI ds i = some d ∧ q d h
  | _, _ => False
theorem RVs.atI {G : Gv} {H : Hp} {ds : List D} {vs : List V} {i : Int} {d : D} (r : RVs G H ds vs) (e : L2.atI ds i = some d) : ∃ v, L2.atI vs i = some v ∧ RV G H d v := by
  unfold L2.atI at e ⊢
  rw [r.length]
  cases q : ixN ds.length i with
  | none => rw [q] at e; cases e
  | some j =>
    rw [q] at e
    exact r.get e
theorem sq_low {G : Gv} {H : Hp} {h : DH} {x : D} {v : V} {ds : List D} (rx : RV G H x v) (rh : RH G H h) (e : seqOf x h = some ds) : ∃ a xs, v = .ref a ∧ (SqL G.K H a xs ∨ SqT G.K H a xs) ∧ RVs G H ds xs := by
  cases x with
  | tup es => cases e; obtain ⟨a, xs, e, t, r⟩ := rx.tup; exact ⟨a, xs, e, .inr t.sq, r⟩
  | cl es => cases e; simp only [RV] at rx; obtain ⟨a, xs, e, t, r⟩ := rx; exact ⟨a, xs, e, .inl t.sq, r⟩
  | ref a =>
    unfold seqOf at e
    cases q : h a with
    | none => simp only [q] at e; cases e
    | some o =>
      cases o <;> simp only [q] at e <;> first | (cases e; done) | skip
      cases e
      obtain ⟨xs, o, r⟩ := rh _ _ q
      exact ⟨a, xs, rx.ref, .inl (SqL.of o), r⟩
  | _ => cases e
theorem dr_ix {G : Gv} : DR2 G (rIx G.K) dIx := by
  intro x y vx vy H h q Q rx ry rh t lo
  have gen : ∀ i, y = .int i → (∃ ds d, seqOf x h = some ds ∧ atI ds i = some d ∧ q d h) → rIx G.K vx vy H Q := by
    rintro i e ⟨ds, d, e1, e2, z⟩
    subst e
    obtain ⟨a, xs, e3, s, r⟩ := sq_low rx rh e1
    obtain ⟨v, e4, rv⟩ := r.atI e2
    rcases s with s | s
    · exact .inl ⟨a, xs, i, v, e3, ry.int, s, e4, lo _ _ _ _ .refl rh rv z⟩
    · exact .inr (.inl ⟨a, xs, i, v, e3, ry.int, s, e4, lo _ _ _ _ .refl rh rv z⟩)
  cases y with
  | int i =>
    cases x with
    | str z =>
      obtain ⟨hz, c, e, z1⟩ := t
      exact .inr (.inr ⟨_, i, c, rx.str, ry.int, by rw [mkS_len]; exact hz, by rw [mkS_cps]; exact e, lo _ _ _ _ .refl rh (rv_str (x := [c])) z1⟩)
    | _ => exact gen i rfl t
  | _ => cases x <;> exact t.elim
/-- o[k] = v of a list -/
def dStI (te to tk : DTE) : DTS := fun E s h => te s h fun y h1 => to s h1 fun x h2 => tk s h2 fun k h3 => ∃ a xs i j, x = .ref a ∧ k = .int i ∧ h3 a = some (.lst xs) ∧ ixN xs.length i = some j ∧ E.nx s (dup h3 a (.lst (xs.set j y)))
/-- a slice's part -/
abbrev DTO := DS → DH → (Option Int → DH → Prop) → Prop
def LO (G : Gv) (t : DTO) : TO := fun σ H Q => ∃ s h q, RS G H s σ ∧ RH G H h ∧ t s h q ∧ ∀ o h' H', Mv H h H' h' → RH G H' h' → q o h' → Q o H'
abbrev DO (G : Gv) (X : Cx) (e : Option Expr) (t : DTO) : Prop := PO X e (LO G t)
def oNo : DTO := fun _ h q => q none h
def oSo (te : DTE) : DTO := fun s h q => te s h fun x h1 => ∃ i, x = .int i ∧ q (some i) h1
theorem imO {X : Cx} {e : Option Expr} {t t' : TO} (h : PO X e t) (i : ∀ σ H Q, t' σ H Q → t σ H Q) : PO X e t' := ⟨fun pins s σ H Q I hw => h.run pins s σ H Q I (i σ H Q hw)⟩
def cutD {α : Type} (xs : List α) (lo hi : Option Int) : List α := (xs.drop (HT.sIx xs.length 0 lo)).take (HT.sIx xs.length xs.length hi - HT.sIx xs.length 0 lo)
def slC (x : D) (lo hi : Option Int) (h : DH) (q : DQ) : Prop := match x with
  | .str z => z.length ≤ sizeLine ∧ q (.str (cutD z lo hi)) h
  | .tup ds => q (.tup (cutD ds lo hi)) h
  | .cl ds => ∀ p, h p = none → q (.ref p) (dup h p (.lst (cutD ds lo hi)))
  | .ref a => ∃ ds, h a = some (.lst ds) ∧ ∀ p, h p = none → q (.ref p) (dup h p (.lst (cutD ds lo hi)))
  | _ => False
def dSl (te : DTE) (tl th : DTO) : DTE := fun s h q => te s h fun x h1 => tl s h1 fun l h2 => th s h2 fun u h3 => slC x l u h3 q
section
variable {G : Gv} {X : Cx} {e a b o : Expr} {te ta tb to : DTE} {tl th : DTO} {lo hi : Option Expr} {pos p2 : Pos}
theorem do_no : DO G X none oNo := imO po_none fun σ H Q ⟨s, h, q, rs, rh, t, lo⟩ => lo none h H .refl rh t
theorem do_so (he : DE G X e te) : DO G X (some e) (oSo te) := imO (po_some he) fun σ H Q ⟨s, h, q, rs, rh, t, lo⟩ =>
  ⟨s, h, _, rs, rh, t, fun x h1 vx H1 k1 rh1 rx ⟨i, e, z⟩ => by subst e; exact ⟨i, rx.int, lo _ _ _ k1 rh1 z⟩⟩
theorem RVs.cut {H : Hp} {ds : List D} {vs : List V} (r : RVs G H ds vs) (lo hi : Option Int) : RVs G H (cutD ds lo hi) (cutV vs lo hi) := by
  unfold cutD cutV
  rw [r.length]
  exact (r.drop _).take _
theorem de_slice (hK : X.K = G.K) (he : DE G X e te) (hl : DO G X lo tl) (hu : DO G X hi th) : DE G X (.Subscript e (.Slice lo hi none p2) pos) (dSl te tl th) := by
  refine imE (pe_slice (r := fun x lo hi H Q => rSlL G.K x lo hi H Q ∨ (rSlA G.K x lo hi H Q ∨ rSlS x lo hi H Q)) (by rw [← hK]; exact SlR.or sl_list (SlR.or sl_tupA sl_str)) he hl hu) fun σ H Q ⟨s, h, q, rs, rh, t, lo⟩ => ?_
  refine ⟨s, h, _, rs, rh, t, fun x h1 vx H1 k1 rh1 rx t1 => ?_⟩
  refine ⟨s, h1, _, rs.keep k1.keep, rh1, t1, fun l h2 H2 k2 rh2 t2 => ?_⟩
  refine ⟨s, h2, _, (rs.keep k1.keep).keep k2.keep, rh2, t2, fun u h3 H3 k3 rh3 t3 => ?_⟩
  have k13 := (k1.trans k2).trans k3
  have rx3 := rx.keep (k2.trans k3).keep
  cases x with
  | str z => exact .inr (.inr ⟨_, rx3.str, by rw [mkS_len]; exact t3.1, by
      have e : cutS (mkS z) l u = mkS (cutD z l u) := by unfold cutS cutD; rw [mkS_cps, mkS_len]; rfl
      rw [e]; exact lo _ _ _ _ k13 rh3 rv_str t3.2⟩)
  | tup ds =>
    obtain ⟨a, xs, e, ta, ra⟩ := rx3.tup
    refine .inr (.inl ⟨a, xs, e, ta.sq, fun ⟨w1, w2⟩ => ?_, fun _ p hp => ?_⟩)
    · have ec : cutD ds l u = ds := by
        rw [ra.length] at w1 w2
        unfold cutD
        rw [w1, w2]
        simp
      have t4 : q (.tup (cutD ds l u)) h3 := t3
      rw [ec] at t4
      exact lo _ _ _ _ k13 rh3 (rv_tup ta ra) t4
    · exact lo _ _ _ _ (k13.trans (.new hp)) (rh3.new hp) (rv_tup (.inl upd_same) ((RVs.cut ra l u).keep (.new hp))) t3
  | cl ds =>
    simp only [RV] at rx3
    obtain ⟨a, xs, e, ta, ra⟩ := rx3
    exact .inl ⟨a, xs, e, ta.sq, fun p hp => lo _ _ _ _ (k13.trans (.newT hp)) (rh3.put (m := .lst (cutD ds l u)) (.new hp) ⟨_, upd_same, (RVs.cut ra l u).keep (.new hp)⟩) rv_ref (t3 p (rh3.free hp))⟩
  | ref a =>
    obtain ⟨ds, e, t3⟩ := t3
    obtain ⟨xs, o, ra⟩ := rh3 _ _ e
    exact .inl ⟨a, xs, rx3.ref, SqL.of o, fun p hp => lo _ _ _ _ (k13.trans (.newT hp)) (rh3.put (m := .lst (cutD ds l u)) (.new hp) ⟨_, upd_same, (RVs.cut ra l u).keep (.new hp)⟩) rv_ref (t3 p (rh3.free hp))⟩
  | _ => exact t3.elim
theorem de_ix (hK : X.K = G.K) (ha : DE G X a ta) (hb : DE G X b tb) (hs : PlainIx b := by exact fun _ _ => rfl) : DE G X (.Subscript a b pos) (dOp dIx ta tb) :=
  imE (pe_ix (r := rIx G.K) (by rw [← hK]; exact ix_seq) ha hb hs) fun σ H Q h => op_low dr_ix h
theorem dp_stI {v : Expr} {tp : Pos} (hv : DE G X v te) (ho : DE G X o to) (hb : DE G X b tb) (hs : swapsWithSole [.Subscript o b tp] v pos.line X.env = pure false := by rfl) (hw : swappedStores [.Subscript o b tp] v X.env = pure none := by rfl)
    (h1 : (assignEach [.Subscript o b tp] X.env).map (·.2) = [assign (.Subscript o b tp) X.env] := by rfl)
    (h2 : ∀ v, assign (.Subscript o b tp) X.env v = (do
      let ov ← holding [v] (eval o X.env)
      let iv ← holding [v, ov] (eval b X.env)
      standAt tp
      holding [v, ov, iv] (setItem ov iv v)
      release [v, ov, iv] []) := by intro _; rfl) : DP G X (.Assign [.Subscript o b tp] v pos) (dStI te to tb) :=
  imS (ps_asg hv (pg_sub ho hb set_list h2) hs hw h1) fun F σ H ⟨s, h, E, rs, rh, t, lo⟩ => by
    refine ⟨s, h, _, rs, rh, t, fun y h1 vy H1 k1 rh1 ry t1 => ?_⟩
    refine ⟨s, h1, _, rs.keep k1.keep, rh1, t1, fun x h2 vx H2 k2 rh2 rx t2 => ?_⟩
    refine ⟨s, h2, _, (rs.keep k1.keep).keep k2.keep, rh2, t2, fun k h3 vk H3 k3 rh3 rk ⟨a, xs, i, j, e1, e2, e3, e4, t3⟩ => ?_⟩
    subst e1 e2
    obtain ⟨us, o1, r1⟩ := rh3 _ _ e3
    have kp : Keep H3 (upd H3 a (.lst (us.set j vy))) := .put o1 rfl
    have k13 := (k1.trans k2).trans k3
    refine ⟨a, us, i, j, rx.ref, rk.int, o1, by rw [r1.length]; exact e4, ?_⟩
    exact lo.nx _ _ _ _ (k13.trans (.put e3 kp)) ((rs.keep k13.keep).keep kp) (rh3.put (m := .lst (xs.set j y)) kp ⟨_, upd_same, (r1.keep kp).set j ((ry.keep (k2.trans k3).keep).keep kp)⟩) t3
end
end ML

set_option Elab.async false
set_option linter.all false
set_option maxRecDepth 100000
set_option maxHeartbeats 4000000
namespace ML
open PySem PySem.Spec PyProof.Rows L2

/-! ### built-ins by name -/
section
variable {G : Gv} {X : Cx} {x : Str} {e f : Expr} {ta tb : DTE} {p pos : Pos}
theorem de_b1 {id : String} {r : List V → Hp → VK → Prop} {rd : D → DH → DQ → Prop} (hc : CallR X (.builtin id) r) (hr : DUn G (fun x H Q => r [x] H Q) rd) (hm : X.mg x = none) (hv : bootBuiltins x = some (.builtin id)) (ha : DE G X e ta) (hg : Gl X x := by rfl) (hn : x ≠ "__name__" := by decide) (hd : (x == ("__debug__" : Str)) = false := by decide)
    (he : starEach (e :: []) X.env = (false, eval e X.env) :: starEach [] X.env := by rfl) (hpl : (backTo pos (starEach [] X.env)).any (·.1) = false := by rfl) : DE G X (.Call (.Name x p) [e] [] pos) (dUn rd ta) :=
  imE (pe_callB hc hg hm hv (pa_cons ha pa_nil he) hn hd he hpl) fun σ H Q h => un_low hr h
theorem de_t1 {id : String} {r : List V → Hp → VK → Prop} {rd : D → DH → DQ → Prop} (hc : CallR X (.type id) r) (hr : DUn G (fun x H Q => r [x] H Q) rd) (hm : X.mg x = none) (hv : bootBuiltins x = some (.type id)) (ha : DE G X e ta) (hg : Gl X x := by rfl) (hn : x ≠ "__name__" := by decide) (hd : (x == ("__debug__" : Str)) = false := by decide)
    (he : starEach (e :: []) X.env = (false, eval e X.env) :: starEach [] X.env := by rfl) (hpl : (backTo pos (starEach [] X.env)).any (·.1) = false := by rfl) : DE G X (.Call (.Name x p) [e] [] pos) (dUn rd ta) :=
  imE (pe_callTy hc hg hm hv (pa_cons ha pa_nil he) hn hd he hpl) fun σ H Q h => un_low hr h
theorem de_b2 {id : String} {r : List V → Hp → VK → Prop} {rd : D → D → DH → DQ → Prop} (hc : CallR X (.builtin id) r) (hr : DR2 G (fun x y H Q => r [x, y] H Q) rd) (hm : X.mg x = none) (hv : bootBuiltins x = some (.builtin id)) (ha : DE G X e ta) (hb : DE G X f tb) (hg : Gl X x := by rfl) (hn : x ≠ "__name__" := by decide) (hd : (x == ("__debug__" : Str)) = false := by decide)
    (he : starEach (e :: [f]) X.env = (false, eval e X.env) :: starEach [f] X.env := by rfl) (hf : starEach (f :: []) X.env = (false, eval f X.env) :: starEach [] X.env := by rfl) (hpl : (backTo pos (starEach [f] X.env)).any (·.1) = false := by rfl) : DE G X (.Call (.Name x p) [e, f] [] pos) (dOp rd ta tb) :=
  imE (pe_callB hc hg hm hv (pa_cons ha (pa_cons hb pa_nil hf) he) hn hd he hpl) fun σ H Q h => op_low hr h
end
def dLen (x : D) (h : DH) (q : DQ) : Prop := match x with
  | .str z => z.length ≤ sizeLine ∧ q (.int z.length) h
  | x => ∃ ds, seqOf x h = some ds ∧ q (.int ds.length) h
def rLenAny (K : PySem.W.Frag) : List V → Hp → VK → Prop := fun xs H Q => (∃ p ys, xs = [.ref p] ∧ (SqL K H p ys ∨ SqT K H p ys) ∧ Q (.int ys.length) H) ∨ (∃ z, xs = [.str z] ∧ z.length ≤ sizeLine ∧ Q (.int z.length) H)
theorem dr_len {G : Gv} : DUn G (fun x H Q => rLenAny G.K [x] H Q) dLen := by
  intro x vx H h q Q rx rh t lo
  have gen : (∃ ds, seqOf x h = some ds ∧ q (.int ds.length) h) → rLenAny G.K [vx] H Q := by
    rintro ⟨ds, e, z⟩
    obtain ⟨a, xs, e1, s, r⟩ := sq_low rx rh e
    subst e1
    refine .inl ⟨a, xs, rfl, s, ?_⟩
    rw [r.length]
    exact lo _ _ _ _ .refl rh rv_int z
  cases x with
  | str z => exact .inr ⟨_, by rw [rx.str], by rw [mkS_len]; exact t.1, by rw [mkS_len]; exact lo _ _ _ _ .refl rh rv_int t.2⟩
  | _ => exact gen t
def dToInt (x : D) (h : DH) (q : DQ) : Prop := match x with
  | .int i => q (.int i) h
  | .bl b => q (.int (if b then 1 else 0)) h
  | .str z => ∃ n, PySem.intText? (mkS z) = some n ∧ z.length ≤ 640 ∧ q (.int n) h
  | _ => False
def rIntAny : List V → Hp → VK → Prop := fun xs H Q => ((∃ i, xs = [.int i] ∧ Q (.int i) H) ∨ ∃ k, xs = [.bl k] ∧ Q (.int (if k then 1 else 0)) H) ∨ (∃ a n, xs = [.str a] ∧ PySem.intText? a = some n ∧ a.length ≤ 640 ∧ Q (.int n) H)
theorem dr_int {G : Gv} : DUn G (fun x H Q => rIntAny [x] H Q) dToInt := by
  intro x vx H h q Q rx rh t lo
  cases x with
  | int i => exact .inl (.inl ⟨i, by rw [rx.int], lo _ _ _ _ .refl rh rv_int t⟩)
  | bl b => exact .inl (.inr ⟨b, by rw [rx.bl], lo _ _ _ _ .refl rh rv_int t⟩)
  | str z =>
    obtain ⟨n, e, l, t⟩ := t
    exact .inr ⟨_, n, by rw [rx.str], e, by rw [mkS_len]; exact l, lo _ _ _ _ .refl rh rv_int t⟩
  | _ => exact t.elim
/-- str of a number that isn't negative, of a text -/
def dToStr (x : D) (h : DH) (q : DQ) : Prop := match x with
  | .int i => 0 ≤ i ∧ i < 10 ^ 100 ∧ q (.str (TL.numL i.toNat)) h
  | .str z => q (.str z) h
  | _ => False
def rStrAny : List V → Hp → VK → Prop := fun xs H Q => (∃ i, xs = [.int i] ∧ i.natAbs.log2 < 1920 ∧ Q (.str (toString i)) H) ∨ (∃ a, xs = [.str a] ∧ Q (.str a) H)
theorem str_num (n : Nat) : (Str.ofString (toString ((n : Nat) : Int))) = mkS (TL.numL n) := by
  rw [← TL.tl_num]; exact (mkS_eq _).symm
theorem dr_str {G : Gv} : DUn G (fun x H Q => rStrAny [x] H Q) dToStr := by
  intro x vx H h q Q rx rh t lo
  cases x with
  | int i =>
    obtain ⟨h0, h1, t⟩ := t
    refine .inl ⟨i, by rw [rx.int], ?_, ?_⟩
    · have : i.natAbs < 2 ^ 1900 := Nat.lt_trans (by omega : i.natAbs < 10 ^ 100) (by decide)
      exact Nat.lt_trans (PySem.Flt.log2_lt_of (by decide) this) (by decide)
    · have e : i = ((i.toNat : Nat) : Int) := by omega
      have e2 : (Str.ofString (toString i)) = mkS (TL.numL i.toNat) := by rw [← str_num, ← e]
      show Q (.str (Str.ofString (toString i))) H
      rw [e2]
      exact lo _ _ _ _ .refl rh rv_str t
  | str z => exact .inr ⟨_, by rw [rx.str], lo _ _ _ _ .refl rh rv_str t⟩
  | _ => exact t.elim
def dList (x : D) (h : DH) (q : DQ) : Prop := ∃ ds, seqOf x h = some ds ∧ ∀ p, h p = none → q (.ref p) (dup h p (.lst ds))
theorem dr_list {G : Gv} : DUn G (fun x H Q => (fun xs H Q => ∃ p ys, xs = [.ref p] ∧ (SqL G.K H p ys ∨ SqT G.K H p ys) ∧ ∀ l, H l = none → Q (.ref l) (upd H l (.lst ys))) [x] H Q) dList := by
  rintro x vx H h q Q rx rh ⟨ds, e, t⟩ lo
  obtain ⟨a, xs, e1, s, r⟩ := sq_low rx rh e
  subst e1
  exact ⟨a, xs, rfl, s, fun p hp => lo _ _ _ _ (.newT hp) (rh.put (m := .lst ds) (.new hp) ⟨_, upd_same, r.keep (.new hp)⟩) rv_ref (t p (rh.free hp))⟩
def dTuple (x : D) (h : DH) (q : DQ) : Prop := ∃ ds, seqOf x h = some ds ∧ q (.tup ds) h
theorem dr_tuple {G : Gv} : DUn G (fun x H Q => (fun xs H Q => ∃ p ys, xs = [.ref p] ∧ ((SqL G.K H p ys ∧ ∀ l, H l = none → Q (.ref l) (upd H l (.tup ys))) ∨ (SqT G.K H p ys ∧ Q (.ref p) H))) [x] H Q) dTuple := by
  rintro x vx H h q Q rx rh ⟨ds, e, t⟩ lo
  cases x with
  | tup es =>
    cases e
    obtain ⟨a, xs, e1, ta, r⟩ := rx.tup
    exact ⟨a, xs, by rw [e1], .inr ⟨ta.sq, lo _ _ _ _ .refl rh (rv_tup ta r) t⟩⟩
  | cl es =>
    cases e
    simp only [RV] at rx
    obtain ⟨a, xs, e1, ta, r⟩ := rx
    exact ⟨a, xs, by rw [e1], .inl ⟨ta.sq, fun p hp => lo _ _ _ _ (.new hp) (rh.new hp) (rv_tup (.inl upd_same) (r.keep (.new hp))) t⟩⟩
  | ref b =>
    unfold seqOf at e
    cases z : h b with
    | none => simp only [z] at e; cases e
    | some o =>
      cases o <;> simp only [z] at e <;> first | (cases e; done) | skip
      cases e
      obtain ⟨xs, o, r⟩ := rh _ _ z
      exact ⟨b, xs, by rw [rx.ref], .inl ⟨SqL.of o, fun p hp => lo _ _ _ _ (.new hp) (rh.new hp) (rv_tup (.inl upd_same) (r.keep (.new hp))) t⟩⟩
  | _ => cases e
def blsOf : List D → Option (List Bool)
  | [] => some []
  | .bl b :: r => (blsOf r).map (b :: ·)
  | _ :: _ => none
theorem bls_low {G : Gv} {H : Hp} : ∀ {ds : List D} {bs : List Bool} {vs : List V}, blsOf ds = some bs → RVs G H ds vs → vs = bs.map V.bl
  | [], bs, vs, e, r => by cases e; exact RVs.nil.mp r
  | .bl b :: ds, bs, vs, e, r => by
    obtain ⟨v, us, e1, r1, r2⟩ := RVs.cons.mp r
    unfold blsOf at e
    cases q : blsOf ds with
    | none => rw [q] at e; cases e
    | some bs' =>
      rw [q] at e
      cases e
      rw [e1, r1.bl, bls_low q r2]; rfl
  | .non :: _, _, _, e, _ | .int _ :: _, _, _, e, _ | .str _ :: _, _, _, e, _ | .tup _ :: _, _, _, e, _ | .ref _ :: _, _, _, e, _ | .cl _ :: _, _, _, e, _ => by cases e
def dAll (x : D) (h : DH) (q : DQ) : Prop := ∃ a ds bs, x = .ref a ∧ h a = some (.lst ds) ∧ blsOf ds = some bs ∧ q (.bl (bs.all id)) h
theorem dr_all {G : Gv} : DUn G (fun x H Q => rAll G.K [x] H Q) dAll := by
  rintro x vx H h q Q rx rh ⟨a, ds, bs, e, e1, e2, t⟩ lo
  subst e
  obtain ⟨xs, o, r⟩ := rh _ _ e1
  refine ⟨a, bs, by rw [rx.ref], ?_, lo _ _ _ _ .refl rh rv_bl t⟩
  rw [← bls_low e2 r]
  exact SqL.of o
/-- isinstance(x, T): T 0 str, 1 int, 2 tuple, 3 list, 4 bool, 5 dict -/
def tyN : Nat → String
  | 0 => "str" | 1 => "int" | 2 => "tuple" | 3 => "list" | 4 => "bool" | _ => "dict"
def isa (T : Nat) (x : D) (h : DH) : Option Bool := match x with
  | .non => some false
  | .bl _ => some (T == 1 || T == 4)
  | .int _ => some (T == 1)
  | .str _ => some (T == 0)
  | .tup _ => some (T == 2)
  | .cl _ => some (T == 3)
  | .ref a => match h a with
    | some (.lst _) => some (T == 3)
    | some (.dic _ _) => some (T == 5)
    | _ => none
def dIsi (T : Nat) (x : D) (h : DH) (q : DQ) : Prop := ∃ b, isa T x h = some b ∧ q (.bl b) h
def kitOkB (T : Nat) : Bool := decide (kitB "NoneType" (tyN T) = some false) && decide (kitB "bool" (tyN T) = some (T == 1 || T == 4)) && decide (kitB "int" (tyN T) = some (T == 1)) && decide (kitB "str" (tyN T) = some (T == 0)) &&
  decide (kitB "tuple" (tyN T) = some (T == 2)) && decide (kitB "list" (tyN T) = some (T == 3)) && decide (kitB "dict" (tyN T) = some (T == 5))
theorem dr_isi {G : Gv} {T : Nat} (hT : kitOkB T = true) : DUn G (fun x H Q => rIsi G.K [x, .ty (tyN T)] H Q) (dIsi T) := by
  rintro x vx H h q Q rx rh ⟨b, e, t⟩ lo
  unfold kitOkB at hT
  simp only [Bool.and_eq_true, decide_eq_true_eq] at hT
  obtain ⟨⟨⟨⟨⟨⟨k0, k1⟩, k2⟩, k3⟩, k4⟩, k5⟩, k6⟩ := hT
  have fin : ∀ (n : String) (b' : Bool), b' = b → TyX G.K H vx (.type n) → kitB n (tyN T) = some b' → rIsi G.K [vx, .ty (tyN T)] H Q := fun n b' e1 ty k =>
    ⟨vx, _, _, _, b, rfl, .ty _, ty, by rw [← e1]; exact kit_ty k, lo _ _ _ _ .refl rh rv_bl t⟩
  cases x with
  | non => rw [rx.non] at fin ⊢; exact fin "NoneType" _ (by cases e; rfl) (.base .non) k0
  | bl c => rw [rx.bl] at fin ⊢; exact fin "bool" _ (by cases e; rfl) (.base (.bl c)) k1
  | int i => rw [rx.int] at fin ⊢; exact fin "int" _ (by cases e; rfl) (.base (.int i)) k2
  | str z => rw [rx.str] at fin ⊢; exact fin "str" _ (by cases e; rfl) (.base (.str _)) k3
  | tup ds =>
    obtain ⟨a, xs, e1, ta, _⟩ := rx.tup
    rw [e1] at fin ⊢
    refine fin "tuple" _ (by cases e; rfl) ?_ k4
    rcases ta with ta | ⟨o, its, n, l, c, _⟩
    · exact .base (.tup ta)
    · exact .kTuple l c
  | cl ds =>
    simp only [RV] at rx
    obtain ⟨a, xs, e1, ta, _⟩ := rx
    rw [e1] at fin ⊢
    refine fin "list" _ (by cases e; rfl) ?_ k5
    rcases ta with ⟨o, ta⟩ | ⟨o, its, n, l, c, _⟩
    · exact .base (.frz ta)
    · exact .kList l c
  | ref a =>
    rw [rx.ref] at fin ⊢
    unfold isa at e
    cases z : h a with
    | none => simp only [z] at e; cases e
    | some o =>
      cases o with
      | lst ds =>
        simp only [z] at e
        obtain ⟨xs, o, _⟩ := rh _ _ z
        exact fin "list" _ (by cases e; rfl) (.base (.lst o)) k5
      | dic t kvs =>
        simp only [z] at e
        cases t with
        | false => obtain ⟨xs, o, _⟩ := rh _ _ z; exact fin "dict" _ (by cases e; rfl) (.base (.dK o)) k6
        | true => obtain ⟨xs, o, _⟩ := rh _ _ z; exact fin "dict" _ (by cases e; rfl) (.base (.dT o)) k6
      | ins c fs => simp only [z] at e; cases e
      | exc c fs => simp only [z] at e; cases e
section
variable {G : Gv} {X : Cx} {e f : Expr} {ta tb : DTE} {p p2 pos : Pos}
theorem de_len (hK : X.K = G.K) (hm : X.mg "len" = none) (ha : DE G X e ta) (hg : Gl X "len" := by rfl) (he : starEach (e :: []) X.env = (false, eval e X.env) :: starEach [] X.env := by rfl) : DE G X (.Call (.Name "len" p) [e] [] pos) (dUn dLen ta) :=
  de_b1 (r := rLenAny G.K) (by rw [← hK]; exact CallR.or call_len_seq call_len_str) dr_len hm PySem.boot_len ha hg (by decide) (by decide) he rfl
theorem de_toInt (hm : X.mg "int" = none) (ha : DE G X e ta) (hg : Gl X "int" := by rfl) (he : starEach (e :: []) X.env = (false, eval e X.env) :: starEach [] X.env := by rfl) : DE G X (.Call (.Name "int" p) [e] [] pos) (dUn dToInt ta) :=
  de_t1 (r := rIntAny) (CallR.or call_int1 call_int_str) dr_int hm (by decide +kernel) ha hg (by decide) (by decide) he rfl
theorem de_toStr (hm : X.mg "str" = none) (ha : DE G X e ta) (hg : Gl X "str" := by rfl) (he : starEach (e :: []) X.env = (false, eval e X.env) :: starEach [] X.env := by rfl) : DE G X (.Call (.Name "str" p) [e] [] pos) (dUn dToStr ta) :=
  de_t1 (r := rStrAny) (CallR.or call_str_int SkE.call_str_str) dr_str hm (by decide +kernel) ha hg (by decide) (by decide) he rfl
theorem de_list (hK : X.K = G.K) (hm : X.mg "list" = none) (ha : DE G X e ta) (hg : Gl X "list" := by rfl) (he : starEach (e :: []) X.env = (false, eval e X.env) :: starEach [] X.env := by rfl) : DE G X (.Call (.Name "list" p) [e] [] pos) (dUn dList ta) :=
  de_t1 (by rw [← hK] at *; exact call_list_of) (by rw [hK]; exact dr_list) hm (by decide +kernel) ha hg (by decide) (by decide) he rfl
theorem de_tuple (hK : X.K = G.K) (hm : X.mg "tuple" = none) (ha : DE G X e ta) (hg : Gl X "tuple" := by rfl) (he : starEach (e :: []) X.env = (false, eval e X.env) :: starEach [] X.env := by rfl) : DE G X (.Call (.Name "tuple" p) [e] [] pos) (dUn dTuple ta) :=
  de_t1 (by rw [← hK] at *; exact call_tuple_of) (by rw [hK]; exact dr_tuple) hm (by decide +kernel) ha hg (by decide) (by decide) he rfl
theorem de_all (hK : X.K = G.K) (hc : X.calm = true) (hm : X.mg "all" = none) (ha : DE G X e ta) (hg : Gl X "all" := by rfl) (he : starEach (e :: []) X.env = (false, eval e X.env) :: starEach [] X.env := by rfl) : DE G X (.Call (.Name "all" p) [e] [] pos) (dUn dAll ta) :=
  de_b1 (r := rAll G.K) (by rw [← hK]; exact cr_all hc) dr_all hm (by decide +kernel) ha hg (by decide) (by decide) he rfl
theorem de_isi {T : Nat} {y : Str} (hK : X.K = G.K) (hm : X.mg "isinstance" = none) (hm2 : X.mg y = none) (hv : bootBuiltins y = some (.type (tyN T))) (hT : kitOkB T = true) (ha : DE G X e ta) (hg : Gl X "isinstance" := by rfl) (hg2 : Gl X y := by rfl) (hn : y ≠ "__name__" := by decide) (hd : (y == ("__debug__" : Str)) = false := by decide)
    (he : starEach (e :: [.Name y p2]) X.env = (false, eval e X.env) :: starEach [.Name y p2] X.env := by rfl) (hf : starEach (.Name y p2 :: []) X.env = (false, eval (.Name y p2) X.env) :: starEach [] X.env := by rfl) (hpl : (backTo pos (starEach [.Name y p2] X.env)).any (·.1) = false := by rfl) :
    DE G X (.Call (.Name "isinstance" p) [e, .Name y p2] [] pos) (dUn (dIsi T) ta) :=
  imE (pe_callB (r := rIsi G.K) (by rw [← hK]; exact call_isi) hg hm (by decide +kernel) (pa_cons ha (pa_cons (pe_bltn (v := .ty (tyN T)) hg2 hm2 hv rfl hn hd) pa_nil hf) he) (by decide) (by decide) he hpl) fun σ H Q h => un_low (dr_isi hT) h
end

/-! ### methods of texts and lists -/
theorem tl_eq (x : Str) : TL.tl x = x.cps.toList := rfl
theorem tl_mkS (a : List Nat) : TL.tl (mkS a) = a := mkS_cps a
def strsD : List D → Option (List (List Nat))
  | [] => some []
  | .str x :: r => (strsD r).map (x :: ·)
  | _ :: _ => none
theorem strs_low {G : Gv} {H : Hp} : ∀ {ds : List D} {ys : List (List Nat)} {vs : List V}, strsD ds = some ys → RVs G H ds vs → vs = (ys.map mkS).map V.str
  | [], ys, vs, e, r => by cases e; exact RVs.nil.mp r
  | .str x :: ds, ys, vs, e, r => by
    obtain ⟨v, us, e1, r1, r2⟩ := RVs.cons.mp r
    unfold strsD at e
    cases q : strsD ds with
    | none => rw [q] at e; cases e
    | some ys' =>
      rw [q] at e
      cases e
      rw [e1, r1.str, strs_low q r2]; rfl
  | .non :: _, _, _, e, _ | .int _ :: _, _, _, e, _ | .bl _ :: _, _, _, e, _ | .tup _ :: _, _, _, e, _ | .ref _ :: _, _, _, e, _ | .cl _ :: _, _, _, e, _ => by cases e
/-- a text's method of one argument -/
def dM1 (rd : List Nat → D → DH → DQ → Prop) (to ta : DTE) : DTE := fun s h q => to s h fun x h1 => ∃ z, x = .str z ∧ ta s h1 fun y h2 => rd z y h2 q
section
variable {G : Gv} {X : Cx} {o e : Expr} {to ta : DTE} {apos pos : Pos}
theorem de_m1 {id : String} {name : Str} {r : V → List V → Hp → VK → Prop} {rd : List Nat → D → DH → DQ → Prop} (slot : Slot "str" name id) (ty : typeOf (.builtin id) = pure (.type "method_descriptor")) (rule : MtR X id r) (hr : ∀ z y vy H h q Q, RV G H y vy → RH G H h → rd z y h q → Lo G H h q Q → r (.str (mkS z)) [vy] H Q) (ho : DE G X o to) (he : DE G X e ta)
    (hs : starEach [e] X.env = [(false, eval e X.env)] := by rfl) (hbase : attributeBase o name X.env (eval o X.env) = eval o X.env := by rfl) (hline : (apos.endLine == pos.line) = true := by rfl) : DE G X (.Call (.Attribute o name apos) [e] [] pos) (dM1 rd to ta) :=
  imE (pe_m1 slot ty rule ho he hs hbase hline) fun σ H Q ⟨s, h, q, rs, rh, t, lo⟩ => by
    refine ⟨s, h, _, rs, rh, t, fun x h1 vx H1 k1 rh1 rx ⟨z, e1, t1⟩ => ?_⟩
    subst e1
    refine ⟨⟨_, rx.str⟩, s, h1, _, rs.keep k1.keep, rh1, t1, fun y h2 vy H2 k2 rh2 ry t2 => ?_⟩
    rw [rx.str]
    exact hr z y vy H2 h2 q Q ry rh2 t2 (lo.keep (k1.trans k2))
def dJoin (z : List Nat) (y : D) (h : DH) (q : DQ) : Prop := ∃ ds ys, seqOf y h = some ds ∧ strsD ds = some ys ∧ (ys.map (·.length)).sum + ys.length * z.length ≤ 16777216 ∧ q (.str (TL.joinL z ys)) h
theorem de_join (hK : X.K = G.K) (ho : DE G X o to) (he : DE G X e ta) (hs : starEach [e] X.env = [(false, eval e X.env)] := by rfl) (hbase : attributeBase o "join" X.env (eval o X.env) = eval o X.env := by rfl) (hline : (apos.endLine == pos.line) = true := by rfl) : DE G X (.Call (.Attribute o "join" apos) [e] [] pos) (dM1 dJoin to ta) :=
  de_m1 F.slot_str_join F.type_str_join mt_join (fun z y vy H h q Q ry rh ⟨ds, ys, e1, e2, hz, t⟩ lo => by
    obtain ⟨a, xs, e3, s, r⟩ := sq_low ry rh e1
    have ex := strs_low e2 r
    subst e3 ex
    have el : ((ys.map mkS).map (·.length)) = ys.map (·.length) := by rw [List.map_map]; exact List.map_congr_left fun a _ => mkS_len a
    refine ⟨_, a, ys.map mkS, rfl, rfl, by rw [hK]; exact s, by rw [el, List.length_map, mkS_len]; exact hz, ?_⟩
    have ej : Txt.join (mkS z) (ys.map mkS) = mkS (TL.joinL z ys) := by
      rw [TL.join_eq]
      apply TL.ext_tl
      rw [TL.tl_join, tl_mkS, tl_mkS, List.map_map]
      congr 1
      conv => rhs; rw [← List.map_id ys]
      exact List.map_congr_left fun a _ => tl_mkS a
    rw [ej]
    exact lo _ _ _ _ .refl rh rv_str t) ho he hs hbase hline
def dSplit (z : List Nat) (y : D) (h : DH) (q : DQ) : Prop := ∃ c, y = .str [c] ∧ c < 256 ∧ z.length + 2 ≤ sizeLine ∧ ∀ p, h p = none → q (.ref p) (dup h p (.lst ((TL.spl [c] 0 [] z).map .str)))
theorem rvs_strs {H : Hp} : ∀ ys : List Str, RVs G H ((ys.map TL.tl).map .str) (ys.map V.str)
  | [] => RVs.nil.mpr rfl
  | y :: r => RVs.cons.mpr ⟨_, _, rfl, by
      have := mkS_eq y
      show RV G H (.str y.cps.toList) (.str y)
      rw [show (V.str y) = .str (mkS y.cps.toList) from by rw [this]]
      exact rv_str, rvs_strs r⟩
theorem de_split (ho : DE G X o to) (he : DE G X e ta) (hs : starEach [e] X.env = [(false, eval e X.env)] := by rfl) (hbase : attributeBase o "split" X.env (eval o X.env) = eval o X.env := by rfl) (hline : (apos.endLine == pos.line) = true := by rfl) : DE G X (.Call (.Attribute o "split" apos) [e] [] pos) (dM1 dSplit to ta) :=
  de_m1 F.slot_str_split F.type_str_split mt_split (fun z y vy H h q Q ry rh ⟨c, e1, hc, hz, t⟩ lo => by
    subst e1
    refine ⟨_, _, rfl, by rw [ry.str], rfl, by rw [mkS_len]; exact hz, fun p hp => ?_⟩
    have es := TL.split_spl (mkS z) (mkS [c]) (by rw [tl_mkS]; exact List.cons_ne_nil _ _) (TL.kind_ok (by simp [mkS, hc]))
    rw [tl_mkS, tl_mkS] at es
    refine lo _ _ _ _ (.newT hp) (rh.put (m := .lst ((TL.spl [c] 0 [] z).map .str)) (.new hp) ⟨_, upd_same, ?_⟩) rv_ref (t p (rh.free hp))
    rw [← es]
    exact rvs_strs _) ho he hs hbase hline
def dStrip (z : List Nat) (y : D) (h : DH) (q : DQ) : Prop := ∃ w, y = .str w ∧ z.length ≤ sizeLine ∧ q (.str (TL.tl (Txt.stripChars (mkS z) (mkS w)))) h
theorem de_strip (ho : DE G X o to) (he : DE G X e ta) (hs : starEach [e] X.env = [(false, eval e X.env)] := by rfl) (hbase : attributeBase o "strip" X.env (eval o X.env) = eval o X.env := by rfl) (hline : (apos.endLine == pos.line) = true := by rfl) : DE G X (.Call (.Attribute o "strip" apos) [e] [] pos) (dM1 dStrip to ta) :=
  de_m1 F.slot_str_strip F.type_str_strip mt_stripChars (fun z y vy H h q Q ry rh ⟨w, e1, hz, t⟩ lo => by
    subst e1
    refine ⟨_, _, rfl, by rw [ry.str], by rw [mkS_len]; exact hz, ?_⟩
    have := lo _ _ _ _ .refl rh rv_str t
    rw [tl_eq, mkS_eq] at this
    exact this) ho he hs hbase hline
/-- a list's method -/
def dL1 (rd : Addr → List D → D → DH → DQ → Prop) (to ta : DTE) : DTE := fun s h q => to s h fun x h1 => ∃ a, x = .ref a ∧ (∃ ds, h1 a = some (.lst ds)) ∧ ta s h1 fun y h2 => ∃ ds, h2 a = some (.lst ds) ∧ rd a ds y h2 q
def dL0 (rd : Addr → List D → DH → DQ → Prop) (to : DTE) : DTE := fun s h q => to s h fun x h1 => ∃ a ds, x = .ref a ∧ h1 a = some (.lst ds) ∧ rd a ds h1 q
theorem de_l1 {id : String} {name : Str} {r : V → List V → Hp → VK → Prop} {rd : Addr → List D → D → DH → DQ → Prop} (slot : Slot "list" name id) (ty : typeOf (.builtin id) = pure (.type "method_descriptor")) (rule : MtR X id r)
    (hr : ∀ a ds vs y vy H h q Q, h a = some (.lst ds) → H a = some (.lst vs) → RVs G H ds vs → RV G H y vy → RH G H h → rd a ds y h q → Lo G H h q Q → r (.ref a) [vy] H Q) (ho : DE G X o to) (he : DE G X e ta)
    (hbase : attributeBase o name X.env (eval o X.env) = eval o X.env := by rfl)
    (hfew : ((backTo pos (starEach (e :: []) X.env)).all (fun x => !x.1) && (backToKw pos (keywordEach [] X.env)).all (fun x => x.1.isSome)
      && decide ((e :: ([] : List Expr)).length + ([] : List Keyword).length + (if ([] : List Keyword).isEmpty then 0 else 1) < 30)) = true := by rfl)
    (hline : (apos.endLine == pos.line) = true := by rfl) (hs : starEach (e :: []) X.env = (false, eval e X.env) :: starEach [] X.env := by rfl) (hplain : (backTo pos (starEach [] X.env)).any (·.1) = false := by rfl) : DE G X (.Call (.Attribute o name apos) [e] [] pos) (dL1 rd to ta) :=
  imE (pe_bm PySem.F.plainAttrs_list slot ty rule ho (pa_cons he pa_nil hs) hbase hfew hline hs hplain) fun σ H Q ⟨s, h, q, rs, rh, t, lo⟩ => by
    refine ⟨s, h, _, rs, rh, t, fun x h1 vx H1 k1 rh1 rx ⟨a, e1, ⟨ds, e2⟩, t1⟩ => ?_⟩
    subst e1
    obtain ⟨vs, o1, r1⟩ := rh1 _ _ e2
    rw [rx.ref]
    refine ⟨.inl ⟨rfl, _, SqL.of o1⟩, s, h1, _, rs.keep k1.keep, rh1, t1, fun y h2 vy H2 k2 rh2 ry ⟨es, e3, t2⟩ => ?_⟩
    obtain ⟨us, o2, r2⟩ := rh2 _ _ e3
    exact hr a es us y vy H2 h2 q Q e3 o2 r2 ry rh2 t2 (lo.keep (k1.trans k2))
theorem de_l0 {id : String} {name : Str} {r : V → List V → Hp → VK → Prop} {rd : Addr → List D → DH → DQ → Prop} (slot : Slot "list" name id) (ty : typeOf (.builtin id) = pure (.type "method_descriptor")) (rule : MtR X id r)
    (hr : ∀ a ds vs H h q Q, h a = some (.lst ds) → H a = some (.lst vs) → RVs G H ds vs → RH G H h → rd a ds h q → Lo G H h q Q → r (.ref a) [] H Q) (ho : DE G X o to)
    (hbase : attributeBase o name X.env (eval o X.env) = eval o X.env := by rfl) (hline : (apos.endLine == pos.line) = true := by rfl) : DE G X (.Call (.Attribute o name apos) [] [] pos) (dL0 rd to) :=
  imE (pe_bm0 PySem.F.plainAttrs_list slot ty rule ho hbase hline) fun σ H Q ⟨s, h, q, rs, rh, t, lo⟩ => by
    refine ⟨s, h, _, rs, rh, t, fun x h1 vx H1 k1 rh1 rx ⟨a, ds, e1, e2, t1⟩ => ?_⟩
    subst e1
    obtain ⟨vs, o1, r1⟩ := rh1 _ _ e2
    rw [rx.ref]
    exact ⟨.inl ⟨rfl, _, SqL.of o1⟩, hr a ds vs H1 h1 q Q e2 o1 r1 rh1 t1 (lo.keep k1)⟩
def dAppend (a : Addr) (ds : List D) (y : D) (h : DH) (q : DQ) : Prop := ds.length < sizeLine ∧ q .non (dup h a (.lst (ds ++ [y])))
def dExtend (a : Addr) (ds : List D) (y : D) (h : DH) (q : DQ) : Prop := ∃ b es, y = .ref b ∧ h b = some (.lst es) ∧ ds.length + es.length ≤ sizeLine ∧ q .non (dup h a (.lst (ds ++ es)))
def dPop (a : Addr) (ds : List D) (h : DH) (q : DQ) : Prop := ∃ y, ds[ds.length - 1]? = some y ∧ q y (dup h a (.lst ds.dropLast))
def dReverse (a : Addr) (ds : List D) (h : DH) (q : DQ) : Prop := q .non (dup h a (.lst ds.reverse))
theorem de_append (ho : DE G X o to) (he : DE G X e ta) (hbase : attributeBase o "append" X.env (eval o X.env) = eval o X.env := by rfl)
    (hfew : ((backTo pos (starEach (e :: []) X.env)).all (fun x => !x.1) && (backToKw pos (keywordEach [] X.env)).all (fun x => x.1.isSome)
      && decide ((e :: ([] : List Expr)).length + ([] : List Keyword).length + (if ([] : List Keyword).isEmpty then 0 else 1) < 30)) = true := by rfl)
    (hline : (apos.endLine == pos.line) = true := by rfl) (hs : starEach (e :: []) X.env = (false, eval e X.env) :: starEach [] X.env := by rfl) : DE G X (.Call (.Attribute o "append" apos) [e] [] pos) (dL1 dAppend to ta) :=
  de_l1 PySem.F.slot_list_append PySem.F.type_list_append mt_append (fun a ds vs y vy H h q Q e o r ry rh ⟨hz, t⟩ lo => by
    have kp : Keep H (upd H a (.lst (vs ++ [vy]))) := .put o rfl
    exact ⟨a, vs, vy, rfl, rfl, o, by rw [r.length]; exact hz, lo _ _ _ _ (.put e kp) (rh.put (m := .lst (ds ++ [y])) kp ⟨_, upd_same, (r.keep kp).append (RVs.cons.mpr ⟨_, _, rfl, ry.keep kp, RVs.nil.mpr rfl⟩)⟩) rv_non t⟩) ho he hbase hfew hline hs rfl
theorem de_extend (ho : DE G X o to) (he : DE G X e ta) (hbase : attributeBase o "extend" X.env (eval o X.env) = eval o X.env := by rfl)
    (hfew : ((backTo pos (starEach (e :: []) X.env)).all (fun x => !x.1) && (backToKw pos (keywordEach [] X.env)).all (fun x => x.1.isSome)
      && decide ((e :: ([] : List Expr)).length + ([] : List Keyword).length + (if ([] : List Keyword).isEmpty then 0 else 1) < 30)) = true := by rfl)
    (hline : (apos.endLine == pos.line) = true := by rfl) (hs : starEach (e :: []) X.env = (false, eval e X.env) :: starEach [] X.env := by rfl) : DE G X (.Call (.Attribute o "extend" apos) [e] [] pos) (dL1 dExtend to ta) :=
  de_l1 PySem.F.slot_list_extend PySem.F.type_list_extend mt_extend (fun a ds vs y vy H h q Q e o r ry rh ⟨b, es, e1, e2, hz, t⟩ lo => by
    subst e1
    obtain ⟨us, o2, r2⟩ := rh _ _ e2
    have kp : Keep H (upd H a (.lst (vs ++ us))) := .put o rfl
    exact ⟨a, b, vs, us, rfl, by rw [ry.ref], o, o2, by rw [r.length, r2.length]; exact hz, lo _ _ _ _ (.put e kp) (rh.put (m := .lst (ds ++ es)) kp ⟨_, upd_same, (r.append r2).keep kp⟩) rv_non t⟩) ho he hbase hfew hline hs rfl
theorem RVs.dropLast {H : Hp} {ds : List D} {vs : List V} (r : RVs G H ds vs) : RVs G H ds.dropLast vs.dropLast := by
  rw [List.dropLast_eq_take, List.dropLast_eq_take, r.length]
  exact r.take _
theorem de_pop (ho : DE G X o to) (hbase : attributeBase o "pop" X.env (eval o X.env) = eval o X.env := by rfl) (hline : (apos.endLine == pos.line) = true := by rfl) : DE G X (.Call (.Attribute o "pop" apos) [] [] pos) (dL0 dPop to) :=
  de_l0 PySem.F.slot_list_pop PySem.F.type_list_pop mt_pop (fun a ds vs H h q Q e o r rh ⟨y, ey, t⟩ lo => by
    obtain ⟨v, v1, v2⟩ := r.get ey
    have kp : Keep H (upd H a (.lst vs.dropLast)) := .put o rfl
    exact ⟨a, vs, v, rfl, rfl, o, by rw [r.length]; exact v1, lo _ _ _ _ (.put e kp) (rh.put (m := .lst ds.dropLast) kp ⟨_, upd_same, (RVs.dropLast r).keep kp⟩) (v2.keep kp) t⟩) ho hbase hline
theorem de_reverse (ho : DE G X o to) (hbase : attributeBase o "reverse" X.env (eval o X.env) = eval o X.env := by rfl) (hline : (apos.endLine == pos.line) = true := by rfl) : DE G X (.Call (.Attribute o "reverse" apos) [] [] pos) (dL0 dReverse to) :=
  de_l0 PySem.F.slot_list_reverse PySem.F.type_list_reverse mt_reverse (fun a ds vs H h q Q e o r rh t lo => by
    have kp : Keep H (upd H a (.lst vs.reverse)) := .put o rfl
    exact ⟨a, vs, rfl, rfl, o, lo _ _ _ _ (.put e kp) (rh.put (m := .lst ds.reverse) kp ⟨_, upd_same, r.reverse.keep kp⟩) rv_non t⟩) ho hbase hline
/-- xs.index(y) of flat items, y among them -/
def dIndex (a : Addr) (ds : List D) (y : D) (h : DH) (q : DQ) : Prop := y.flat = true ∧ ds.all D.flat = true ∧ ∃ j, (ds.take j).all (fun z => !eqF z y) = true ∧ (∃ z, ds[j]? = some z ∧ eqF z y = true) ∧ q (.int j) h
end
end ML

set_option Elab.async false
set_option linter.all false
set_option maxRecDepth 100000
set_option maxHeartbeats 4000000
namespace ML
open PySem PySem.Spec PyProof.Rows L2

/-! ### what is walked -/
section
variable {X : Cx} {tg : Expr}
def tAny (K : PySem.W.Frag) (tl : TE) : TI := fun σ H R => tl σ H fun x H1 => (∃ a, x = .ref a ∧ (∃ xs, SqL K H1 a xs) ∧ R (Itl K a) H1) ∨ (∃ a, x = .ref a ∧ (∃ xs, SqT K H1 a xs) ∧ R (Itt K a) H1) ∨ (∃ z, x = .str z ∧ R (Its z) H1)
theorem pi_any {l : Expr} {tl : TE} (hl : PE X l tl) : PI X tg l (tAny X.K tl) := ⟨fun pins s σ H R I h => by
  refine thn (hl.run pins s σ H _ I h) fun v s1 ⟨x, H1, I1, rx, cases3⟩ => ?_
  rcases cases3 with ⟨a, ex, ⟨xs, hq⟩, q⟩ | ⟨a, ex, ⟨xs, hq⟩, q⟩ | ⟨z, ex, q⟩
  · subst ex
    obtain rfl : v = Value.ref a := rx
    obtain ⟨its, _, pl, _⟩ := I1.list hq
    exact wpAny_pyIter_list pl.isList (pi_one (tk := s1.toks) I1 _ (turn_list a _) ⟨_, Heap.get?_push_size _ rfl, rfl, rfl⟩ q)
  · subst ex
    obtain rfl : v = Value.ref a := rx
    obtain ⟨its, _, pl, _⟩ := I1.tuple hq
    exact wpAny_pyIter_tuple (show s1.heap.IsTuple a its.toArray from pl) (pi_one (tk := s1.toks) I1 _ (turn_tuple a _) ⟨_, Heap.get?_push_size _ rfl, rfl, rfl⟩ q)
  · subst ex
    obtain ⟨t, rfl⟩ := rx
    cases asc : z.cps.all (· < 128)
    · exact wpAny_pyIter_wide asc (pi_one (tk := s1.toks) I1 _ (turn_str _ z t "str_iterator" (.inr rfl)) ⟨_, Heap.get?_push_size _ rfl, rfl, rfl⟩ q)
    · exact wpAny_pyIter_ascii asc (pi_one (tk := s1.toks) I1 _ (turn_str _ z t "str_ascii_iterator" (.inl rfl)) ⟨_, Heap.get?_push_size _ rfl, rfl, rfl⟩ q)⟩
end
def iAny (te : DTE) : DTI := fun s h r => te s h fun x h1 => match x with
  | .str z => r (z.map fun c => .str [c]) (fun _ => True) h1
  | .tup ds => r ds (fun _ => True) h1
  | .cl ds => r ds (fun _ => True) h1
  | .ref a => ∃ ds, h1 a = some (.lst ds) ∧ r ds (fun h => h a = some (.lst ds)) h1
  | _ => False
section
variable {G : Gv} {H : Hp}
theorem sqL_inj {K : PySem.W.Frag} {a : Addr} {xs ys : List V} (h : SqL K H a xs) (h' : SqL K H a ys) (u : H a ≠ none) : xs = ys ∨ ∃ o its n, K.lookup a = some o ∧ o.cls = .type "list" ∧ o.data = .seq its n := by
  rcases h with (h | ⟨o, h⟩) | ⟨o, its, n, h1, h2, h3, h4, _⟩
  · rcases h' with (h' | ⟨o, h'⟩) | ⟨o, its, n, h1, h2, h3, h4, _⟩
    · rw [h] at h'; cases h'; exact .inl rfl
    · rw [h] at h'; cases h'
    · exact .inr ⟨o, its, n, h1, h2, h4⟩
  · rcases h' with (h' | ⟨o, h'⟩) | ⟨o, its, n, h1, h2, h3, h4, _⟩
    · rw [h] at h'; cases h'
    · rw [h] at h'; cases h'; exact .inl rfl
    · exact .inr ⟨o, its, n, h1, h2, h4⟩
  · exact .inr ⟨o, its, n, h1, h2, h4⟩
/-- the tuple at a, walked -/
theorem walks_tup {a : Addr} {xs : List V} {ds : List D} (t : TupAt G.K H a xs) (r : RVs G H ds xs) : WalksD G H (Itt G.K a) ds fun _ => True := by
  refine ⟨fun i H1 h d k rh _ e => ?_, fun i H1 h k rh _ hi => ⟨xs, (k.t.tup t).sq, by rw [r.length]; exact hi⟩⟩
  obtain ⟨v, v1, v2⟩ := r.get e
  refine ⟨⟨xs, v, (k.t.tup t).sq, v1⟩, fun x H' ⟨e1, y⟩ => ?_⟩
  subst e1
  have e2 := y xs (k.t.tup t).sq
  rw [v1] at e2
  cases e2
  exact ⟨.refl, rh, v2.keep k⟩
theorem walks_cl {a : Addr} {xs : List V} {ds : List D} (t : ClAt G.K H a xs) (r : RVs G H ds xs) : WalksD G H (Itl G.K a) ds fun _ => True := by
  refine ⟨fun i H1 h d k rh _ e => ?_, fun i H1 h k rh _ hi => ⟨xs, (k.t.cl t).sq, by rw [r.length]; exact hi⟩⟩
  obtain ⟨v, v1, v2⟩ := r.get e
  refine ⟨⟨xs, v, (k.t.cl t).sq, v1⟩, fun x H' ⟨e1, y⟩ => ?_⟩
  subst e1
  have e2 := y xs (k.t.cl t).sq
  rw [v1] at e2
  cases e2
  exact ⟨.refl, rh, v2.keep k⟩
theorem walks_lst {a : Addr} {ds : List D} : WalksD G H (Itl G.K a) ds fun h => h a = some (.lst ds) := by
  refine ⟨fun i H1 h d k rh c e => ?_, fun i H1 h k rh c hi => ?_⟩
  · obtain ⟨xs, o, r⟩ := rh _ _ c
    obtain ⟨v, v1, v2⟩ := r.get e
    refine ⟨⟨xs, v, SqL.of o, v1⟩, fun x H' ⟨e1, y⟩ => ?_⟩
    subst e1
    have e2 := y xs (SqL.of o)
    rw [v1] at e2
    cases e2
    exact ⟨.refl, rh, v2⟩
  · obtain ⟨xs, o, r⟩ := rh _ _ c
    exact ⟨xs, SqL.of o, by rw [r.length]; exact hi⟩
theorem walks_str {z : List Nat} : WalksD G H (Its (mkS z)) (z.map fun c => .str [c]) fun _ => True := by
  refine ⟨fun i H1 h d k rh _ e => ?_, fun i H1 h k rh _ hi => by show (mkS z).cps.size ≤ i; simpa [mkS] using hi⟩
  rw [List.getElem?_map] at e
  cases q : z[i]? with
  | none => rw [q] at e; cases e
  | some c =>
    rw [q] at e
    cases e
    have hi : i < z.length := by
      rcases Nat.lt_or_ge i z.length with y | y
      · exact y
      · rw [List.getElem?_eq_none y] at q; cases q
    refine ⟨by show i < (mkS z).cps.size; simpa [mkS] using hi, fun x H' ⟨e1, c', e2, e3⟩ => ?_⟩
    subst e1 e3
    have e4 : (mkS z).cps[i]? = some c := by simpa [mkS] using q
    rw [e4] at e2
    cases e2
    exact ⟨.refl, rh, rv_str (x := [c])⟩
end
section
variable {G : Gv} {X : Cx} {tg l : Expr} {te : DTE}
theorem di_any (hK : X.K = G.K) (hl : DE G X l te) : DI G X tg l (iAny te) := by
  refine imI (pi_any hl) fun σ H R ⟨s, h, r, rs, rh, t, lo⟩ => ?_
  refine ⟨s, h, _, rs, rh, t, fun x h1 vx H1 k1 rh1 rx t1 => ?_⟩
  rw [hK]
  cases x with
  | str z => exact .inr (.inr ⟨_, rx.str, lo _ _ _ _ _ k1 rh1 walks_str t1⟩)
  | tup ds =>
    obtain ⟨a, xs, e, ta, ra⟩ := rx.tup
    exact .inr (.inl ⟨a, e, ⟨xs, ta.sq⟩, lo _ _ _ _ _ k1 rh1 (walks_tup ta ra) t1⟩)
  | cl ds =>
    simp only [RV] at rx
    obtain ⟨a, xs, e, ta, ra⟩ := rx
    exact .inl ⟨a, e, ⟨xs, ta.sq⟩, lo _ _ _ _ _ k1 rh1 (walks_cl ta ra) t1⟩
  | ref a =>
    obtain ⟨ds, e, t1⟩ := t1
    obtain ⟨xs, o, _⟩ := rh1 _ _ e
    exact .inl ⟨a, rx.ref, ⟨xs, SqL.of o⟩, lo _ _ _ _ _ k1 rh1 walks_lst t1⟩
  | _ => exact t1.elim
/-! ### ranges -/
def rngD (lo c : Int) (n : Nat) : List D := (List.range n).map fun i : Nat => .int (lo + (i : Int) * c)
theorem rng_get {lo c : Int} {n i : Nat} {d : D} (e : (rngD lo c n)[i]? = some d) : i < n ∧ d = .int (lo + (i : Int) * c) := by
  unfold rngD at e
  rw [List.getElem?_map] at e
  by_cases hi : i < n
  · rw [List.getElem?_range hi] at e
    cases e
    exact ⟨hi, rfl⟩
  · rw [List.getElem?_eq_none (by simpa using Nat.le_of_not_lt hi)] at e; cases e
theorem walks_rng {H : Hp} {lo : Int} {n : Nat} : WalksD G H (Itr lo n) (rngD lo 1 n) fun _ => True := by
  refine ⟨fun i H1 h d k rh _ e => ?_, fun i H1 h k rh _ hi => by show n ≤ i; simpa [rngD] using hi⟩
  obtain ⟨hi, ed⟩ := rng_get e
  subst ed
  refine ⟨hi, fun x H' ⟨e1, e2⟩ => ?_⟩
  subst e1 e2
  refine ⟨.refl, rh, ?_⟩
  rw [Int.mul_one]
  exact rv_int
theorem walks_rngC {H : Hp} {lo c : Int} {n : Nat} : WalksD G H (Itc lo c n) (rngD lo c n) fun _ => True := by
  refine ⟨fun i H1 h d k rh _ e => ?_, fun i H1 h k rh _ hi => by show n ≤ i; simpa [rngD] using hi⟩
  obtain ⟨hi, ed⟩ := rng_get e
  subst ed
  refine ⟨hi, fun x H' ⟨e1, e2⟩ => ?_⟩
  subst e1 e2
  exact ⟨.refl, rh, rv_int⟩
variable {a b c : Expr} {ta tb tc : DTE} {p pos : Pos}
def iRng1 (ta : DTE) : DTI := fun s h r => ta s h fun x h1 => ∃ j, x = .int j ∧ -(2 ^ 62) ≤ j ∧ j < 2 ^ 62 ∧ r (rngD 0 1 j.toNat) (fun _ => True) h1
def iRng2 (ta tb : DTE) : DTI := fun s h r => ta s h fun x h1 => tb s h1 fun y h2 => ∃ i j, x = .int i ∧ y = .int j ∧ (-(2 ^ 62) ≤ i ∧ i < 2 ^ 62 ∧ -(2 ^ 62) ≤ j ∧ j < 2 ^ 62) ∧ r (rngD i 1 (j - i).toNat) (fun _ => True) h2
/-- range(i, j, -1) -/
def iRng3 (ta tb tc : DTE) : DTI := fun s h r => ta s h fun x h1 => tb s h1 fun y h2 => tc s h2 fun z h3 => ∃ i j, x = .int i ∧ y = .int j ∧ z = .int (-1) ∧ (-(2 ^ 62) ≤ i ∧ i < 2 ^ 62 ∧ -(2 ^ 62) ≤ j ∧ j < 2 ^ 62) ∧ r (rngD i (-1) (i - j).toNat) (fun _ => True) h3
theorem di_rng1 (hm : X.mg "range" = none) (ha : DE G X a ta) (hg : Gl X "range" := by rfl) (hs : starEach [a] X.env = [(false, eval a X.env)] := by rfl) (hs2 : starEach (a :: []) X.env = (false, eval a X.env) :: starEach [] X.env := by rfl) : DI G X tg (.Call (.Name "range" p) [a] [] pos) (iRng1 ta) :=
  imI (pi_range1 hg hm (pa_cons ha pa_nil hs2) hs) fun σ H R ⟨s, h, r, rs, rh, t, lo⟩ =>
    ⟨s, h, _, rs, rh, t, fun x h1 vx H1 k1 rh1 rx ⟨j, e, b1, b2, t1⟩ => by
      subst e
      exact ⟨j, by rw [rx.int], b1, b2, lo _ _ _ _ _ k1 rh1 walks_rng t1⟩⟩
theorem di_rng2 (hm : X.mg "range" = none) (ha : DE G X a ta) (hb : DE G X b tb) (hg : Gl X "range" := by rfl) (hs : starEach [a, b] X.env = [(false, eval a X.env), (false, eval b X.env)] := by rfl) (hs2 : starEach [b] X.env = [(false, eval b X.env)] := by rfl)
    (hs3 : starEach (a :: [b]) X.env = (false, eval a X.env) :: starEach [b] X.env := by rfl) (hs4 : starEach (b :: []) X.env = (false, eval b X.env) :: starEach [] X.env := by rfl) : DI G X tg (.Call (.Name "range" p) [a, b] [] pos) (iRng2 ta tb) :=
  imI (pi_range2 hg hm (pa_cons ha (pa_cons hb pa_nil hs4) hs3) hs hs2) fun σ H R ⟨s, h, r, rs, rh, t, lo⟩ =>
    ⟨s, h, _, rs, rh, t, fun x h1 vx H1 k1 rh1 rx t1 => ⟨s, h1, _, rs.keep k1.keep, rh1, t1, fun y h2 vy H2 k2 rh2 ry ⟨i, j, e, e', b1, t2⟩ => by
      subst e e'
      exact ⟨i, j, by rw [rx.int, ry.int], b1, lo _ _ _ _ _ (k1.trans k2) rh2 walks_rng t2⟩⟩⟩
theorem di_rng3 (hm : X.mg "range" = none) (ha : DE G X a ta) (hb : DE G X b tb) (hc : DE G X c tc) (hg : Gl X "range" := by rfl)
    (hs3 : starEach (a :: [b, c]) X.env = (false, eval a X.env) :: starEach [b, c] X.env := by rfl) (hs4 : starEach (b :: [c]) X.env = (false, eval b X.env) :: starEach [c] X.env := by rfl) (hs5 : starEach (c :: []) X.env = (false, eval c X.env) :: starEach [] X.env := by rfl) (hpl : (backTo pos (starEach [b, c] X.env)).any (·.1) = false := by rfl) : DI G X tg (.Call (.Name "range" p) [a, b, c] [] pos) (iRng3 ta tb tc) :=
  imI (pi_range3 hg hm (pa_cons ha (pa_cons hb (pa_cons hc pa_nil hs5) hs4) hs3) hs3 hpl) fun σ H R ⟨s, h, r, rs, rh, t, lo⟩ =>
    ⟨s, h, _, rs, rh, t, fun x h1 vx H1 k1 rh1 rx t1 => ⟨s, h1, _, rs.keep k1.keep, rh1, t1, fun y h2 vy H2 k2 rh2 ry t2 => ⟨s, h2, _, (rs.keep k1.keep).keep k2.keep, rh2, t2, fun z h3 vz H3 k3 rh3 rz ⟨i, j, e1, e2, e3, ⟨b1, b2, b3, b4⟩, t3⟩ => by
      subst e1 e2 e3
      exact ⟨i, j, -1, (i - j).toNat, by rw [rx.int, ry.int, rz.int], RgC.neg b1 b2 b3 b4, lo _ _ _ _ _ ((k1.trans k2).trans k3) rh3 walks_rngC t3⟩⟩⟩⟩
/-! ### enumerate, zip of lists -/
def enumD (ds : List D) : List D := ds.zipIdx.map fun q : D × Nat => .tup [.int (q.2 : Int), q.1]
def iEnum (te : DTE) : DTI := fun s h r => te s h fun x h1 => ∃ a ds, x = .ref a ∧ h1 a = some (.lst ds) ∧ r (enumD ds) (fun h => h a = some (.lst ds)) h1
theorem walks_enum {H : Hp} {a : Addr} {ds : List D} : WalksD G H (Ite G.K a) (enumD ds) fun h => h a = some (.lst ds) := by
  refine ⟨fun i H1 h d k rh c e => ?_, fun i H1 h k rh c hi => ?_⟩
  · obtain ⟨xs, o, r⟩ := rh _ _ c
    unfold enumD at e
    rw [List.getElem?_map, List.getElem?_zipIdx] at e
    cases q : ds[i]? with
    | none => rw [q] at e; cases e
    | some u =>
      rw [q] at e
      have ed : D.tup [.int (i : Int), u] = d := by simpa using e
      subst ed
      obtain ⟨v, v1, v2⟩ := r.get q
      refine ⟨⟨xs, v, SqL.of o, v1⟩, fun x H' ⟨T, y, e1, hT, e2, hy⟩ => ?_⟩
      have e3 := hy xs (SqL.of o)
      rw [v1] at e3
      cases e3
      subst e1 e2
      exact ⟨.new hT, rh.new hT, rv_tup (.inl upd_same) (RVs.cons.mpr ⟨_, _, rfl, rv_int, RVs.cons.mpr ⟨_, _, rfl, v2.keep (.new hT), RVs.nil.mpr rfl⟩⟩)⟩
  · obtain ⟨xs, o, r⟩ := rh _ _ c
    exact ⟨xs, SqL.of o, by rw [r.length]; simpa [enumD] using hi⟩
theorem di_enum {elts : List Expr} {kk : Nat} {tpos : Pos} (hK : X.K = G.K) (hm : X.mg "enumerate" = none) (ha : DE G X a ta) (hg : Gl X "enumerate" := by rfl) (hs : starEach [a] X.env = [(false, eval a X.env)] := by rfl) (hs2 : starEach (a :: []) X.env = (false, eval a X.env) :: starEach [] X.env := by rfl) : DI G X (.Tuple elts kk tpos) (.Call (.Name "enumerate" p) [a] [] pos) (iEnum ta) :=
  imI (pi_enum hg hm (pa_cons ha pa_nil hs2) hs) fun σ H R ⟨s, h, r, rs, rh, t, lo⟩ =>
    ⟨s, h, _, rs, rh, t, fun x h1 vx H1 k1 rh1 rx ⟨b, ds, e, e2, t1⟩ => by
      subst e
      obtain ⟨xs, o, _⟩ := rh1 _ _ e2
      refine ⟨b, xs, by rw [rx.ref], by rw [hK]; exact SqL.of o, ?_⟩
      rw [hK]
      exact lo _ _ _ _ _ k1 rh1 walks_enum t1⟩
end
end ML

set_option Elab.async false
set_option linter.all false
set_option maxRecDepth 100000
set_option maxHeartbeats 4000000
namespace ML
open PySem PySem.Spec PyProof.Rows L2

def dNoW : DW := fun _ _ _ _ => False
theorem tkNo {X : Cx} {G : Gv} : Takes X (LW G dNoW) := fun u s' ⟨a, B, sI, pins, σ, H, cls, d, e, I, nb, up, sky, na, os, ag, c, fs, s, h, e1, rx, rs, rh, z⟩ => z.elim

/-! ### the module's constants -/
def GVal (mg : Str → Option Value) (G : Gv) (x : Str) (d : D) : Prop := ∃ u v, mg x = some u ∧ RelV v u ∧ ∀ H, RV G H d v
theorem de_gv {G : Gv} {X : Cx} {x : Str} {d : D} {pos : Pos} (h : GVal X.mg G x d) (hg : Gl X x := by rfl) (hd : (x == ("__debug__" : Str)) = false := by decide) : DE G X (.Name x pos) (dC d) := by
  obtain ⟨u, v, e, r, rv⟩ := h
  exact de_glob e r rv hg hd
mutual
def relBD (K : PySem.W.Frag) : D → Value → Bool
  | .non, .none => true
  | .bl b, .bool c => b == c
  | .int i, .int j _ => decide (i = j)
  | .str x, .str y _ => decide (x = y.cps.toList)
  | .tup ds, .ref a => (match K.lookup a with
    | some ⟨.type c, _, .seq its _, _⟩ => decide (c = "tuple") && (decide (its.size ≤ sizeLine) && relBDs K ds its.toList)
    | _ => false)
  | _, _ => false
def relBDs (K : PySem.W.Frag) : List D → List Value → Bool
  | [], [] => true
  | d :: ds, u :: us => relBD K d u && relBDs K ds us
  | _, _ => false
end
section
variable {G : Gv}
mutual
theorem relBD_ok : ∀ {d : D} {u : Value}, relBD G.K d u = true → ∃ v, RelV v u ∧ ∀ H, RV G H d v
  | .non, u, h => by cases u <;> first | (exact ⟨.non, rfl, fun H => rv_non⟩) | (unfold relBD at h; cases h)
  | .bl b, u, h => by
    cases u <;> first | (unfold relBD at h; cases h; done) | skip
    have e : b = _ := eq_of_beq (by unfold relBD at h; exact h)
    exact ⟨.bl b, by rw [e]; rfl, fun H => rv_bl⟩
  | .int i, u, h => by
    cases u <;> first | (unfold relBD at h; cases h; done) | skip
    have e : i = _ := of_decide_eq_true (by unfold relBD at h; exact h)
    exact ⟨.int i, ⟨_, by rw [e]⟩, fun H => rv_int⟩
  | .str x, u, h => by
    cases u <;> first | (unfold relBD at h; cases h; done) | skip
    rename_i y t
    have e : x = y.cps.toList := of_decide_eq_true (by unfold relBD at h; exact h)
    exact ⟨.str (mkS x), ⟨t, by rw [e, mkS_eq]⟩, fun H => rv_str⟩
  | .ref _, u, h => by cases u <;> (unfold relBD at h; cases h)
  | .cl _, u, h => by cases u <;> (unfold relBD at h; cases h)
  | .tup ds, u, h => by
    cases u <;> first | (unfold relBD at h; cases h; done) | skip
    rename_i a
    unfold relBD at h
    cases q : G.K.lookup a with
    | none => rw [q] at h; cases h
    | some o =>
      rw [q] at h
      obtain ⟨oc, od, dt, osl⟩ := o
      cases oc with
      | type c =>
        cases dt with
        | seq its n =>
          obtain ⟨h1, h2⟩ := Bool.and_eq_true_iff.mp h
          obtain ⟨h3, h4⟩ := Bool.and_eq_true_iff.mp h2
          obtain ⟨vs, rv, rd⟩ := relBDs_ok h4
          refine ⟨.ref a, rfl, fun H => rv_tup (.inr ⟨_, its, n, q, congrArg Value.type (of_decide_eq_true h1), rfl, of_decide_eq_true h3, rv⟩) (rd H)⟩
        | _ => cases h
      | _ => cases dt <;> cases h
theorem relBDs_ok : ∀ {ds : List D} {us : List Value}, relBDs G.K ds us = true → ∃ vs, Vals vs us ∧ ∀ H, RVs G H ds vs
  | [], [], _ => ⟨[], .nil, fun H => RVs.nil.mpr rfl⟩
  | [], _ :: _, h => by unfold relBDs at h; cases h
  | _ :: _, [], h => by unfold relBDs at h; cases h
  | d :: ds, u :: us, h => by
    unfold relBDs at h
    obtain ⟨h1, h2⟩ := Bool.and_eq_true_iff.mp h
    obtain ⟨v, r1, r2⟩ := relBD_ok h1
    obtain ⟨vs, r3, r4⟩ := relBDs_ok h2
    exact ⟨v :: vs, .cons r1 r3, fun H => RVs.cons.mpr ⟨_, _, rfl, r2 H, r4 H⟩⟩
end
end
def valB (K : PySem.W.Frag) (q : Str × D) : Bool := match PySem.W.nsIn K mainGlobals q.1 with
  | some (some u) => relBD K q.2 u
  | _ => false
theorem valB_ok {G : Gv} {h : Heap} {mg : Str → Option Value} (X : G.K.In h) (N : h.Ns mainGlobals mg) {x : Str} {d : D} (c : valB G.K (x, d) = true) : GVal mg G x d := by
  unfold valB at c
  cases e : PySem.W.nsIn G.K mainGlobals x with
  | none => rw [e] at c; cases c
  | some r =>
    rw [e] at c
    cases r with
    | none => cases c
    | some u =>
      obtain ⟨v, r1, r2⟩ := relBD_ok (G := G) c
      exact ⟨u, v, PySem.W.mg_of X N e, r1, r2⟩
/-- a table of the top: texts to numbers -/
abbrev TabV : Type := Option (List (Option (List Nat × Int × Int)))
def tabOf (K : PySem.W.Frag) (x : Str) : TabV := match K.lookup (He.ga K x) with
  | some ⟨.type c, none, .dict es _, sl⟩ => (match decide (c = "dict") && (sl.isEmpty && !(He.ga K x == sysModules)) with
    | true => some (es.toList.map fun e => match e.key, e.val with
      | .str y _, .int i _ => some (y.cps.toList, e.hash, i)
      | _, _ => none)
    | false => none)
  | _ => none
def tabVal (w : World) (kvs : List (List Nat × Int)) : TabV := some (kvs.map fun q => some (q.1, PyData.keyHash w.params (mkS q.1), q.2))
def lookI (z : List Nat) : List (List Nat × Int) → Option Int
  | [] => none
  | (k, v) :: r => if k = z then some v else lookI z r
/-- the global x is the table kvs -/
def GTab (mg : Str → Option Value) (K : PySem.W.Frag) (w : World) (x : Str) (kvs : List (List Nat × Int)) : Prop := ∃ a es n, mg x = some (.ref a) ∧ KDict K w a es n ∧ ∀ z, ∃ r, PySem.W.nsIn K a (mkS z) = some r ∧ (match lookI z kvs with | some v => ∃ t, r = some (.int v t) | none => r = none)
theorem tab_find : ∀ (l : List DictEntry) (w : World) (kvs : List (List Nat × Int)), (l.map fun e => match e.key, e.val with
      | .str y _, .int i _ => some (y.cps.toList, e.hash, i)
      | _, _ => none) = (kvs.map fun q => some (q.1, PyData.keyHash w.params (mkS q.1), q.2)) →
    PySem.W.KeysLit w.params l ∧ ∀ z, ∃ r, (match l.find? (·.key.isStr (mkS z)) with
      | some e => some (some e.val)
      | none => if l.any (·.refKey) then none else some none) = some r ∧ (match lookI z kvs with | some v => ∃ t, r = some (.int v t) | none => r = none)
  | [], w, [], _ => ⟨trivial, fun z => ⟨none, rfl, rfl⟩⟩
  | [], _, _ :: _, h => by cases h
  | _ :: _, _, [], h => by cases h
  | e :: l, w, (k, v) :: kvs, h => by
    obtain ⟨h1, h2⟩ := List.cons.inj h
    obtain ⟨i1, i2⟩ := tab_find l w kvs h2
    obtain ⟨hash, key, val⟩ := e
    cases key <;> cases val <;> first | (cases h1; done) | skip
    rename_i y t i u
    have e1 := Option.some.inj h1
    have a1 : y.cps.toList = k := congrArg (fun q : List Nat × Int × Int => q.1) e1
    have a2 : hash = PyData.keyHash w.params (mkS k) := congrArg (fun q : List Nat × Int × Int => q.2.1) e1
    have a3 : i = v := congrArg (fun q : List Nat × Int × Int => q.2.2) e1
    subst a3
    have ey : y = mkS k := by rw [← a1, mkS_eq]
    subst ey
    refine ⟨⟨⟨_, t, rfl, a2⟩, i1⟩, fun z => ?_⟩
    by_cases hz : k = z
    · subst hz
      refine ⟨some (.int i u), ?_, ?_⟩
      · rw [List.find?_cons_of_pos (by simp [Value.isStr])]
      · simp only [lookI, if_true]; exact ⟨u, rfl⟩
    · obtain ⟨r, r1, r2⟩ := i2 z
      refine ⟨r, ?_, ?_⟩
      · rw [List.find?_cons_of_neg (by simp only [Value.isStr]; intro q; exact hz (mkS_inj (by simpa using q)).symm.symm)]
        rw [← r1]
        cases q : l.find? (·.key.isStr (mkS z)) with
        | some e => rfl
        | none => rfl
      · simp only [lookI, if_neg hz]; exact r2
theorem tab_ok {K : PySem.W.Frag} {h : Heap} {mg : Str → Option Value} {w : World} (X : K.In h) (N : h.Ns mainGlobals mg) {x : Str} {kvs : List (List Nat × Int)} (c : tabOf K x = tabVal w kvs) (g : (He.Fa.glo x).ok K = true) : GTab mg K w x kvs := by
  unfold tabOf tabVal at c
  cases q : K.lookup (He.ga K x) with
  | none => rw [q] at c; cases c
  | some o =>
    obtain ⟨oc, od, dt, osl⟩ := o
    rw [q] at c
    cases oc with
    | type c0 =>
      cases od with
      | none =>
        cases dt with
        | dict es n =>
          cases z : decide (c0 = "dict") && (osl.isEmpty && !(He.ga K x == sysModules)) with
          | false => simp only [z] at c; cases c
          | true =>
            simp only [z] at c
            obtain ⟨z1, z2⟩ := Bool.and_eq_true_iff.mp z
            obtain ⟨z3, z4⟩ := Bool.and_eq_true_iff.mp z2
            have e1 : c0 = "dict" := of_decide_eq_true z1
            have e2 : osl = #[] := Array.isEmpty_iff.mp z3
            have e3 : (He.ga K x == sysModules) = false := by simpa using z4
            subst e1 e2
            obtain ⟨k1, k2⟩ := tab_find es.toList w kvs (Option.some.inj c)
            refine ⟨He.ga K x, es, n, He.glo_ok X N g, ⟨q, k1, e3⟩, fun y => ?_⟩
            obtain ⟨r, r1, r2⟩ := k2 y
            refine ⟨r, ?_, r2⟩
            unfold PySem.W.nsIn
            rw [q]
            exact r1
        | _ => cases c
      | some b => cases dt <;> cases c
    | _ => cases od <;> cases dt <;> cases c
def dInG (kvs : List (List Nat × Int)) (x : D) (h : DH) (q : DQ) : Prop := ∃ z, x = .str z ∧ q (.bl (lookI z kvs).isSome) h
def dIxG (kvs : List (List Nat × Int)) (x : D) (h : DH) (q : DQ) : Prop := ∃ z v, x = .str z ∧ lookI z kvs = some v ∧ q (.int v) h
section
variable {G : Gv} {X : Cx} {a : Expr} {ta : DTE} {x : Str} {p pos : Pos} {kvs : List (List Nat × Int)}
theorem de_inG (hK : X.K = G.K) (T : GTab X.mg G.K X.w x kvs) (ha : DE G X a ta) (hg : Gl X x := by rfl) (hd : (x == ("__debug__" : Str)) = false := by decide) (hm : behindInMarks .In (.Name x p) = false := by rfl) : DE G X (.Compare a [.In] [.Name x p] pos) (dUn (dInG kvs) ta) := by
  obtain ⟨d, es, n, e, kd, look⟩ := T
  rw [← hK] at kd look
  refine imE (pe_cmpR (op_in_kd kd) ha (pe_glob (v := .ref d) hg e rfl hd) hm) fun σ H Q h => un_low (fun y vy H h q Q ry rh ⟨z, e1, t⟩ lo => ?_) h
  subst e1
  obtain ⟨r, r1, r2⟩ := look z
  refine ⟨_, r, ry.str, rfl, r1, ?_⟩
  have er : r.isSome = (lookI z kvs).isSome := by
    cases q : lookI z kvs with
    | none => rw [q] at r2; rw [r2]; rfl
    | some v => rw [q] at r2; obtain ⟨t, r2⟩ := r2; rw [r2]; rfl
  rw [er]
  exact lo _ _ _ _ .refl rh rv_bl t
theorem de_ixG {b : Expr} (hK : X.K = G.K) (T : GTab X.mg G.K X.w x kvs) (hb : DE G X b ta) (hg : Gl X x := by rfl) (hd : (x == ("__debug__" : Str)) = false := by decide) (hs : PlainIx b := by exact fun _ _ => rfl) : DE G X (.Subscript (.Name x p) b pos) (dUn (dIxG kvs) ta) := by
  obtain ⟨d, es, n, e, kd, look⟩ := T
  rw [← hK] at kd look
  refine imE (t := tOp (fun x y H Q => ∃ (z : Str) (u0 : Value) (v0 : V), x = .ref d ∧ y = .str z ∧ PySem.W.nsIn X.K d z = some (some u0) ∧ RelV v0 u0 ∧ Q v0 H) (tC (.ref d)) (L G ta)) ⟨fun pins s σ H Q I h => Subscript_ (binT (pe_glob (v := .ref d) hg e rfl hd) hb I h fun v u s2 x y H2 I2 rx ry q => ?_)⟩ fun σ H Q h => un_low (r := fun y H Q => ∃ (z : Str) (u0 : Value) (v0 : V), V.ref d = .ref d ∧ y = .str z ∧ PySem.W.nsIn X.K d z = some (some u0) ∧ RelV v0 u0 ∧ Q v0 H) (rd := dIxG kvs) (fun y vy H h q Q ry rh ⟨z, v, e1, e2, t⟩ lo => ?_) h
  · have hv : v = Value.ref d := by obtain ⟨_, _, _, ex, _⟩ := q; rw [ex] at rx; exact rx
    subst hv
    exact tail_any (kd_type kd I2) slot_dict_getitem.lookup (op_item_kd kd pins s2 σ H2 x y _ u Q I2 rx ry q) (hs _ _)
  · subst e1
    obtain ⟨r, r1, r2⟩ := look z
    rw [e2] at r2
    obtain ⟨t', r2⟩ := r2
    subst r2
    exact ⟨_, _, .int v, rfl, ry.str, r1, ⟨_, rfl⟩, lo _ _ _ _ .refl rh rv_int t⟩
end
/-! ### xs.index(y) -/
section
variable {G : Gv} {X : Cx} {o e : Expr} {to ta : DTE} {apos pos : Pos}
theorem de_index (hK : X.K = G.K) (ho : DE G X o to) (he : DE G X e ta) (hbase : attributeBase o "index" X.env (eval o X.env) = eval o X.env := by rfl)
    (hfew : ((backTo pos (starEach (e :: []) X.env)).all (fun x => !x.1) && (backToKw pos (keywordEach [] X.env)).all (fun x => x.1.isSome)
      && decide ((e :: ([] : List Expr)).length + ([] : List Keyword).length + (if ([] : List Keyword).isEmpty then 0 else 1) < 30)) = true := by rfl)
    (hline : (apos.endLine == pos.line) = true := by rfl) (hs : starEach (e :: []) X.env = (false, eval e X.env) :: starEach [] X.env := by rfl) : DE G X (.Call (.Attribute o "index" apos) [e] [] pos) (dL1 dIndex to ta) :=
  de_l1 PySem.F.slot_list_index PySem.F.type_list_index mt_index (fun a ds vs y vy H h q Q e o r ry rh ⟨f, g, j, e1, ⟨z, e2, e3⟩, t⟩ lo => by
    obtain ⟨v, v1, v2⟩ := r.get e2
    have fz : z.flat = true := List.all_eq_true.mp g z (List.mem_of_getElem? e2)
    refine ⟨a, vs, vy, j, v, rfl, rfl, by rw [hK]; exact SqL.of o, flat_low ry f, flats_low r g, v1, by rw [eqF_low v2 ry fz f]; exact e3, fun m z' hm hz => ?_, lo _ _ _ _ .refl rh rv_int t⟩
    have hml : m < ds.length := by
      rw [← r.length]
      rcases Nat.lt_or_ge m vs.length with y | y
      · exact y
      · rw [List.getElem?_eq_none y] at hz; cases hz
    obtain ⟨v', w1, w2⟩ := r.get (i := m) (d := ds[m]) (by simp [hml])
    rw [hz] at w1
    cases w1
    have fm : ds[m].flat = true := List.all_eq_true.mp g _ (List.getElem_mem hml)
    rw [eqF_low w2 ry fm f]
    have := List.all_eq_true.mp e1 ds[m] (List.mem_take_iff_getElem.mpr ⟨m, by omega, rfl⟩)
    simpa using this) ho he hbase hfew hline hs rfl
end

/-! ### the head's facts -/
abbrev AlM : Type := He.AlD × Bool × List TabV
structure Fc where
  fa : List He.Fa
  fn : List He.DefD
  vs : List (Str × D)
  ts : List (Str × List (List Nat × Int))
def Fc.obs (c : Fc) (K : PySem.W.Frag) : AlM := (He.obsD c.fa c.fn K, c.vs.all (valB K), c.ts.map fun t => tabOf K t.1)
def Fc.val (c : Fc) (w : World) : AlM := (He.valD c.fn, true, c.ts.map fun t => tabVal w t.2)
def Fc.says (c : Fc) (w : World) (K : PySem.W.Frag) : Prop := c.obs K = c.val w
def Fc.obsG (n : Nat) (c : Fc) (g : Addr → Option Obj) : AlM := c.obs (He.frG g (He.asD g n))
def Fc.hook (n : Nat) (c : Fc) : PySem.W.Hook where
  α := AlM
  obs := fun s => c.obsG n s.heap.get?
  val := fun w => c.val w
  says := fun w h => ∃ K : PySem.W.Frag, K.In h ∧ c.says w K
  of := fun _ _ e => ⟨_, He.frG_in, e⟩
  keeps := fun _ _ _ ⟨K, hK, c⟩ k => ⟨K, PySem.W.Frag.In.keeps hK k, c⟩
theorem Fc.obs_eq {n : Nat} {c : Fc} {g : Addr → Option Obj} {s : Shared} (h : ∀ a, g a = s.heap.get? a) : c.obsG n g = (c.hook n).obs s := by
  have e : g = s.heap.get? := funext h
  rw [e] <;> rfl
section
variable {c : Fc} {w : World} {K : PySem.W.Frag}
theorem Fc.says.d (h : c.says w K) : He.SaysD c.fa c.fn K := congrArg (fun z : AlM => z.1) h
theorem Fc.says.fact (h : c.says w K) (i : Nat) {f : He.Fa} (e : c.fa[i]? = some f := by rfl) : f.ok K = true := He.SaysD.fact h.d i e
theorem Fc.says.val_ (h : c.says w K) (i : Nat) {q : Str × D} (e : c.vs[i]? = some q := by rfl) : valB K q = true := by
  have h1 : c.vs.all (valB K) = true := congrArg (fun z : AlM => z.2.1) h
  exact List.all_eq_true.mp h1 q (List.mem_of_getElem? e)
theorem Fc.says.tab (h : c.says w K) (i : Nat) {q : Str × List (List Nat × Int)} (e : c.ts[i]? = some q := by rfl) : tabOf K q.1 = tabVal w q.2 := by
  have h1 : (c.ts.map fun t => tabOf K t.1) = c.ts.map fun t => tabVal w t.2 := congrArg (fun z : AlM => z.2.2) h
  have h2 : (c.ts.map fun t => tabOf K t.1)[i]? = (c.ts.map fun t => tabVal w t.2)[i]? := by rw [h1]
  rw [List.getElem?_map, List.getElem?_map, e] at h2
  exact Option.some.inj h2
end
/-! ### a def of the text, from the head's facts -/
abbrev DfOk (G : Gv) (x qual : Str) (st : Stmt) (f : Addr) (fd : FuncData) : Prop := FunD G.K x qual (defArgs st) (defBody st) (defScope st) [] [] f fd
section
variable {P : Program} {w : World} {G : Gv} {mg : Str → Option Value} {base : Heap}
theorem fno {n : Nat} {x qual : Str} {st : Stmt} {f : Addr} {fd : FuncData} {N ps : List Str} {tb : DW → DTS} (F : DfOk G x qual st f fd) (S : FnScope N ps (defScope st))
    (hbody : ∀ (cdv : Value) (A : Around) (outer : List Env) (s : Shared) (H : Hp) (E : XK) (dw : DW), Rm n (A.deeper (envOfC qual (defScope st) s.heap.objs.size f cdv)) → PassesOwn (model P w) (A.deeper (envOfC qual (defScope st) s.heap.objs.size f cdv)) (envOfC qual (defScope st) s.heap.objs.size f cdv) (cxOf (L2.CX P w) P w G.K mg base N qual (defScope st) f cdv A outer s H E).xe →
      Takes (cxOf (L2.CX P w) P w G.K mg base N qual (defScope st) f cdv A outer s H E) (LW G dw) → DPs G (cxOf (L2.CX P w) P w G.K mg base N qual (defScope st) f cdv A outer s H E) (defBody st) (tb dw)) :
    FnO P w G mg base (n + 1) f fd ps (body N.length ps.length tb) := by
  obtain ⟨oc, od, dV, kV, doc, pm, an, cdv, ct, osl, rfl, lk, hcd, _, _⟩ := F.ex
  exact fno_of lk hcd S fun A outer s H E dw hr hp tk => hbody cdv A outer s H E dw hr hp tk
theorem fno0 {n : Nat} {f : Addr} {fd : FuncData} {ps : List Str} : FnO P w G mg base n f fd ps fun _ _ _ _ => False :=
  ⟨fun _ _ _ _ z => z.elim, fun _ _ _ _ _ _ _ _ _ _ _ _ _ ⟨_, _, _, _, _, _, z, _⟩ => z.elim⟩
end
end ML

set_option Elab.async false
set_option linter.all false
set_option maxRecDepth 100000
set_option maxHeartbeats 4000000
namespace ML
open PySem PySem.Spec PyProof.Rows L2
/-! ### a law's end -/
/-- a def's promise, and that its name stands for it -/
def NFn (mg : Str → Option Value) (G : Gv) (x qual : Str) (st : Stmt) (ps : List Str) : Prop := ∃ f fd, mg x = some (.ref f) ∧ PySem.W.keepIn G.K (.ref f) = true ∧ Binds G.K fd ps [] ∧ DfOk G x qual st f fd
def NMe (G : Gv) (c : Nat) (m qual : Str) (st : Stmt) (ps : List Str) : Prop := ∃ f fd, Meth G.K (G.adr c) m f ∧ m ∉ G.fn c ∧ Binds G.K fd ps [] ∧ DfOk G m qual st f fd
def NMk (mg : Str → Option Value) (G : Gv) (c : Nat) (x qual : Str) (st : Stmt) (ps : List Str) : Prop := ∃ f fd, mg x = some (.ref (G.adr c)) ∧ Mk G.K (G.adr c) f ∧ Binds G.K fd ps [] ∧ DfOk G "__init__" qual st f fd
section
variable {P : Program} {w : World} {G : Gv} {mg : Str → Option Value} {base : Heap} {n m c : Nat} {x qual : Str} {st : Stmt} {ps : List Str} {sp : DSp}
theorem NFn.fn (F : NFn mg G x qual st ps) (h : ∀ f fd, DfOk G x qual st f fd → FnO P w G mg base n f fd ps sp) : GFn P w G mg base n x sp := by
  obtain ⟨f, fd, a, b, c, d⟩ := F
  exact ⟨f, fd, ps, a, b, c, h f fd d⟩
theorem NMe.fn (F : NMe G c x qual st ps) (h : ∀ f fd, DfOk G x qual st f fd → FnO P w G mg base n f fd ps sp) : GMe P w G mg base n c x sp := by
  obtain ⟨f, fd, a, b, c, d⟩ := F
  exact ⟨f, fd, ps, a, b, c, h f fd d⟩
theorem NMk.fn (F : NMk mg G c x qual st ps) (h : ∀ f fd, DfOk G "__init__" qual st f fd → FnO P w G mg base n f fd ps sp) : GMk P w G mg base n c x sp := by
  obtain ⟨f, fd, a, b, c, d⟩ := F
  exact ⟨f, fd, ps, a, b, c, h f fd d⟩
end
def emp : DH := fun _ => none
theorem rh_emp {G : Gv} {H : Hp} : RH G H emp := fun a m e => by cases e
theorem rvs_ints {G : Gv} {H : Hp} : ∀ (ns : List Int), RVs G H (ns.map D.int) (ns.map V.int)
  | [] => RVs.nil.mpr rfl
  | n :: ns => RVs.cons.mpr ⟨_, _, rfl, rv_int, rvs_ints ns⟩
/-- what a law's def must answer -/
def Tells (n : Nat) (sp : DSp) : Prop := ∀ ns : List Int, ns.length ≤ n → sp [.cl (ns.map .int)] emp (fun d _ => d = .bl true) fun _ _ _ => False
theorem walk_D {l : PySem.W.OpenLaw} {n k j : Nat} {q : Program} {loose : List Str} {XP : (Str → Option Value) → Heap → Prop} {YP : World → Heap → Prop} {d : DefRec} {x : Str}
    (hn : l.most = some n) (hn2 : n ≤ sizeLine) (hdf : d.params.defaults = []) (hr : Room k callerA) (hj : j + 7 ≤ 3 * k)
    (F : ∀ (w : World) (mg : Str → Option Value) (fa : Addr) (h : Heap), YP w h → h.Ns mainGlobals mg → mg d.name = some (.ref fa) →
      ∃ (G : Gv) (fd : FuncData) (sp : DSp), G.K.In h ∧ (∀ (s : Shared) (u : Value), BindsTo s fd ⟨[u], []⟩ [(x, u)]) ∧ Tells n sp ∧
        ∀ base : Heap, G.K.In base → base.Ns mainGlobals mg → FnO l.prog w G mg base j fa fd [x] sp) :
    PySem.W.WalkO q loose XP YP l.row.toRowW d [] (fun f vs => PySem.call f vs) := by
  refine Att.attach_call hn hdf fun w _ s₁ mg mb fa _ _ _ _ a _ ns gr Y _ _ _ hmg hobj hints hlen hg => ?_
  obtain ⟨G, fd, sp, KX, hb, hsp, hF⟩ := F w mg fa _ Y gr.T.g hmg
  refine law_call (CX := L2.CX l.prog w) (sp := LSp G sp) KX gr.T.g gr.T.b gr.T.builtins gr.T.nolimit hg hobj hints (Nat.le_trans hlen hn2) hr (fun base hKb hNb => ?_) hb (fun H hO hS => ?_) fun H e s' ⟨_, _, _, _, _, _, _, _, _, _, _, _, z⟩ => z
  · have R := hF base hKb hNb
    exact ⟨fun vs H Q E ⟨ds, h, q, x, rv, _, z, _⟩ => rv.length.trans (R.len _ _ _ _ z), fun A outer s H args us vs Q E r => R.run A outer s H args us vs Q E ⟨r.hd, by have := r.dp; omega, by have := r.un; omega⟩⟩
  · refine ⟨[.cl (ns.map .int)], emp, _, _, RVs.cons.mpr ⟨_, _, rfl, ?_, RVs.nil.mpr rfl⟩, rh_emp, hsp ns hlen, fun d h' v H' _ _ rv e => by subst e; exact rv.bl, fun _ _ _ _ _ _ _ _ z => z.elim⟩
    simp only [RV]
    refine ⟨a, ns.map .int, rfl, ?_, rvs_ints ns⟩
    rcases hS with e | e
    · rcases hO a with z | ⟨o, xs, z⟩
      · rcases e with e | ⟨o, e⟩ <;> (rw [z] at e; cases e)
      · rcases e with e | ⟨o', e⟩
        · rw [z] at e; cases e
        · exact .inl ⟨o', e⟩
    · exact .inr e
end ML

set_option Elab.async false
set_option linter.all false
set_option maxRecDepth 100000
set_option maxHeartbeats 4000000
namespace ML
open PySem PySem.Spec PyProof.Rows L2
/-! ### for the plain laws -/
theorem dVar_e {i : Nat} {s : DS} {h : DH} {q : DQ} : dVar i s h q = ∃ d, s[i]? = some (some d) ∧ q d h := rfl
theorem ex_eq {α : Type} {x : α} {P : α → Prop} : (∃ d, some (some x) = some (some d) ∧ P d) ↔ P x := ⟨fun ⟨d, e, p⟩ => by cases e; exact p, fun p => ⟨x, rfl, p⟩⟩
theorem ex_eq1 {α : Type} {x : α} {P : α → Prop} : (∃ d, some x = some d ∧ P d) ↔ P x := ⟨fun ⟨d, e, p⟩ => by cases e; exact p, fun p => ⟨x, rfl, p⟩⟩
theorem ex_bl {b : Bool} {P : Bool → Prop} : (∃ c, D.bl b = .bl c ∧ P c) ↔ P b := ⟨fun ⟨d, e, p⟩ => by cases e; exact p, fun p => ⟨b, rfl, p⟩⟩
theorem ex_str {b : List Nat} {P : List Nat → Prop} : (∃ c, D.str b = .str c ∧ P c) ↔ P b := ⟨fun ⟨d, e, p⟩ => by cases e; exact p, fun p => ⟨b, rfl, p⟩⟩
theorem ex_int {b : Int} {P : Int → Prop} : (∃ c, D.int b = .int c ∧ P c) ↔ P b := ⟨fun ⟨d, e, p⟩ => by cases e; exact p, fun p => ⟨b, rfl, p⟩⟩
theorem ex_ref {b : Addr} {P : Addr → Prop} : (∃ c, D.ref b = .ref c ∧ P c) ↔ P b := ⟨fun ⟨d, e, p⟩ => by cases e; exact p, fun p => ⟨b, rfl, p⟩⟩
theorem ex_tup {b : List D} {P : List D → Prop} : (∃ c, D.tup b = .tup c ∧ P c) ↔ P b := ⟨fun ⟨d, e, p⟩ => by cases e; exact p, fun p => ⟨b, rfl, p⟩⟩
theorem ex_cons {α : Type} {x : α} {r : List α} {P : α → List α → Prop} : (∃ d t, x :: r = d :: t ∧ P d t) ↔ P x r := ⟨fun ⟨d, t, e, p⟩ => by cases e; exact p, fun p => ⟨x, r, rfl, p⟩⟩
theorem ex_lst {m : Option MO} {ds : List D} {P : List D → Prop} (e : m = some (.lst ds)) : (∃ xs, m = some (.lst xs) ∧ P xs) ↔ P ds := ⟨fun ⟨d, e', p⟩ => by rw [e] at e'; cases e'; exact p, fun p => ⟨ds, e, p⟩⟩
theorem ex_lst1 {ds : List D} {P : List D → Prop} : (∃ xs, some (MO.lst ds) = some (.lst xs) ∧ P xs) ↔ P ds := ex_lst rfl
theorem ex_ins1 {c : Nat} {fs : List D} {P : List D → Prop} : (∃ xs, some (MO.ins c fs) = some (.ins c xs) ∧ P xs) ↔ P fs := ⟨fun ⟨d, e', p⟩ => by cases e'; exact p, fun p => ⟨fs, rfl, p⟩⟩
theorem ex_ds {α : Type} {x : α} {P : α → Prop} : (∃ d, x = d ∧ P d) ↔ P x := ⟨fun ⟨d, e, p⟩ => by cases e; exact p, fun p => ⟨x, rfl, p⟩⟩
theorem seq_ref {a : Addr} {h : DH} {ds : List D} (e : h a = some (.lst ds)) : seqOf (.ref a) h = some ds := by unfold seqOf; simp only [e]
theorem dup_dup {h : DH} {a : Addr} {o m : MO} : dup (dup h a o) a m = dup h a m := by
  funext b; unfold dup; split <;> rfl
theorem dup_comm {h : DH} {a b : Addr} {o m : MO} (n : a ≠ b) : dup (dup h a o) b m = dup (dup h b m) a o := by
  funext c; unfold dup
  by_cases e : c = b
  · subst e; rw [if_pos rfl, if_neg (Ne.symm n), if_pos rfl]
  · rw [if_neg e]; by_cases e2 : c = a
    · subst e2; rw [if_pos rfl, if_pos rfl]
    · rw [if_neg e2, if_neg e2, if_neg e]
theorem dup_id {h : DH} {a : Addr} {o : MO} (e : h a = some o) : dup h a o = h := by
  funext b; unfold dup; split
  · rename_i z; rw [z, e]
  · rfl
theorem free_ne {h : DH} {a p : Addr} {o : MO} (e : h a = some o) (n : h p = none) : a ≠ p := fun z => by subst z; rw [e] at n; cases n
theorem le_ne {h : DH} {p : Addr} {m : MO} (n : h p = none) : Le h (dup h p m) := (Le.refl h).new n
theorem le_trans {h h1 h2 : DH} (a : Le h h1) (b : Le h1 h2) : Le h h2 := a.trans b
theorem wkq {q : DQ} {d : D} {h h' : DH} (l : Le h' h) (z : q d h') : wkQ q d h := ⟨h', l, z⟩
theorem wkq0 {q : DQ} {d : D} {h : DH} (z : q d h) : wkQ q d h := ⟨h, .refl h, z⟩
theorem wk0 {P : DS → DH → Prop} {s : DS} {h : DH} (z : P s h) : wk P s h := ⟨s, h, ⟨rfl, fun _ _ e => e⟩, .refl h, z⟩
theorem wk1 {P : DS → DH → Prop} {s : DS} {h h' : DH} (l : Le h' h) (z : P s h') : wk P s h := ⟨s, h', ⟨rfl, fun _ _ e => e⟩, l, z⟩
theorem for_ind {chk : DH → Prop} {g : DTG} {tb : DTS} {E : DEnds} (I : List D → DS → DH → Prop) (hn : ∀ s h, I [] s h → chk h ∧ E.nx s h)
    (hs : ∀ x r s h, I (x :: r) s h → chk h ∧ ∀ F : DS → DH → Prop, (∀ s h s' h', LeS s' s → Le h' h → I r s' h' → F s h) → g x s h fun s1 h1 => tb { E with nx := F, ct := F, bk := E.nx } s1 h1) :
    ∀ items s h, I items s h → forD chk g tb E items s h
  | [], s, h, i => hn s h i
  | x :: r, s, h, i => ⟨(hs x r s h i).1, (hs x r s h i).2 _ fun s h s' h' l1 l2 i' => ⟨s', h', l1, l2, for_ind I hn hs r s' h' i'⟩⟩
theorem comp_ind {chk : DH → Prop} {g : DTG} {tt : DTT} {te : DTE} {s : DS} {q : List D → DH → Prop} (I : List D → List D → DH → Prop) (hn : ∀ acc h, I [] acc h → chk h ∧ q acc h)
    (hs : ∀ x r acc h, I (x :: r) acc h → chk h ∧ ∀ F : List D → DH → Prop, (∀ acc h h', Le h' h → I r acc h' → F acc h) → g x s h fun s2 h2 => tt s2 h2 fun b h3 =>
      if b = true then te s2 h3 fun y h4 => acc.length < sizeLine ∧ F (acc ++ [y]) h4 else F acc h3) :
    ∀ items acc h, I items acc h → compD chk g tt te s q items acc h
  | [], acc, h, i => hn acc h i
  | x :: r, acc, h, i => ⟨(hs x r acc h i).1, (hs x r acc h i).2 (fun acc h => ∃ h5, Le h5 h ∧ compD chk g tt te s q r acc h5) fun acc h h' l i' => ⟨h', l, comp_ind I hn hs r acc h' i'⟩⟩
section
variable {h : DH} {q : DQ} {i j : Int} {a b : Addr} {x y z w : D} {r ds es : List D} {u v : List Nat}
theorem add_ii : dAdd (.int i) (.int j) h q = q (.int (i + j)) h := rfl
theorem add_ss : dAdd (.str u) (.str v) h q = (u.length + v.length ≤ sizeLine ∧ q (.str (u ++ v)) h) := rfl
theorem add_tt : dAdd (.tup ds) (.tup es) h q = (ds.length + es.length ≤ sizeLine ∧ q (.tup (ds ++ es)) h) := rfl
theorem add_ll (e : h a = some (.lst ds)) (f : h b = some (.lst es)) : dAdd (.ref a) (.ref b) h q = (ds.length + es.length ≤ sizeLine ∧ ∀ p, h p = none → q (.ref p) (dup h p (.lst (ds ++ es)))) := by
  apply propext; show (∃ xs ys, h a = some (.lst xs) ∧ h b = some (.lst ys) ∧ _) ↔ _
  rw [e, f]
  exact ⟨fun ⟨_, _, e1, e2, z⟩ => by cases e1; cases e2; exact z, fun z => ⟨_, _, rfl, rfl, z⟩⟩
theorem sub_ii : dSub (.int i) (.int j) h q = q (.int (i - j)) h := rfl
theorem mul_ii : dMul (.int i) (.int j) h q = (CMulD i j ∧ q (.int (i * j)) h) := rfl
theorem mul_si : dMul (.str u) (.int j) h q = (j < 1000000 ∧ -1000000 < j ∧ u.length * j.toNat ≤ sizeLine ∧ q (.str (List.replicate j.toNat u).flatten) h) := rfl
theorem mul_li (e : h a = some (.lst ds)) : dMul (.ref a) (.int j) h q = (j < 1000000 ∧ -1000000 < j ∧ ds.length * j.toNat ≤ sizeLine ∧ ∀ p, h p = none → q (.ref p) (dup h p (.lst (List.replicate j.toNat ds).flatten))) := by
  apply propext; show (∃ xs, h a = some (.lst xs) ∧ _) ↔ _
  rw [e]
  exact ⟨fun ⟨_, e1, z⟩ => by cases e1; exact z, fun z => ⟨_, rfl, z⟩⟩
theorem div_ii : dDiv (.int i) (.int j) h q = (CDivD i j ∧ q (.int (i / j)) h) := rfl
theorem mod_ii : dMod (.int i) (.int j) h q = (0 < j ∧ q (.int (i % j)) h) := rfl
theorem pow_ii : dPow (.int i) (.int j) h q = (CPow i j ∧ q (.int (i ^ j.toNat)) h) := rfl
theorem lt_ii : dLt (.int i) (.int j) h q = q (.bl (decide (i < j))) h := rfl
theorem le_ii : dLe (.int i) (.int j) h q = q (.bl (decide (i ≤ j))) h := rfl
theorem gt_ii : dGt (.int i) (.int j) h q = q (.bl (decide (j < i))) h := rfl
theorem ge_ii : dGe (.int i) (.int j) h q = q (.bl (decide (j ≤ i))) h := rfl
theorem neg_i : dNeg (.int i) h q = q (.int (-i)) h := rfl
theorem eq_ii : dEq (.int i) (.int j) h q = q (.bl (decide (i = j))) h := rfl
theorem eq_ss : dEq (.str u) (.str v) h q = q (.bl (decide (u = v))) h := rfl
theorem ne_ii : dNe (.int i) (.int j) h q = q (.bl (!decide (i = j))) h := rfl
theorem ne_ss : dNe (.str u) (.str v) h q = q (.bl (!decide (u = v))) h := rfl
theorem qix_tup : dIx (.tup ds) (.int i) h q = ∃ d, atI ds i = some d ∧ q d h := by
  apply propext; show (∃ es d, some ds = some es ∧ _) ↔ _
  exact ⟨fun ⟨_, d, e, z⟩ => by cases e; exact ⟨d, z⟩, fun ⟨d, z⟩ => ⟨_, d, rfl, z⟩⟩
theorem qix_cl : dIx (.cl ds) (.int i) h q = ∃ d, atI ds i = some d ∧ q d h := by
  apply propext; show (∃ es d, some ds = some es ∧ _) ↔ _
  exact ⟨fun ⟨_, d, e, z⟩ => by cases e; exact ⟨d, z⟩, fun ⟨d, z⟩ => ⟨_, d, rfl, z⟩⟩
theorem qix_ref (e : h a = some (.lst ds)) : dIx (.ref a) (.int i) h q = ∃ d, atI ds i = some d ∧ q d h := by
  apply propext; show (∃ es d, seqOf (.ref a) h = some es ∧ _) ↔ _
  rw [seq_ref e]
  exact ⟨fun ⟨_, d, e, z⟩ => by cases e; exact ⟨d, z⟩, fun ⟨d, z⟩ => ⟨_, d, rfl, z⟩⟩
theorem qix_str : dIx (.str u) (.int i) h q = (u.length ≤ sizeLine ∧ ∃ c, atI u i = some c ∧ q (.str [c]) h) := rfl
theorem at0 {α : Type} {x : α} {r : List α} : atI (x :: r) 0 = some x := by
  have := atI_nat (xs := x :: r) (j := 0) (v := x) rfl
  exact this
theorem at1 {α : Type} {x y : α} {r : List α} : atI (x :: y :: r) 1 = some y := atI_nat (j := 1) rfl
theorem at2 {α : Type} {x y z : α} {r : List α} : atI (x :: y :: z :: r) 2 = some z := atI_nat (j := 2) rfl
theorem at3 {α : Type} {x y z w : α} {r : List α} : atI (x :: y :: z :: w :: r) 3 = some w := atI_nat (j := 3) rfl
theorem qlen_tup : dLen (.tup ds) h q = q (.int ds.length) h := by
  apply propext; show (∃ es, some ds = some es ∧ _) ↔ _; exact ex_eq1
theorem qlen_cl : dLen (.cl ds) h q = q (.int ds.length) h := by
  apply propext; show (∃ es, some ds = some es ∧ _) ↔ _; exact ex_eq1
theorem qlen_ref (e : h a = some (.lst ds)) : dLen (.ref a) h q = q (.int ds.length) h := by
  apply propext; show (∃ es, seqOf (.ref a) h = some es ∧ _) ↔ _; rw [seq_ref e]; exact ex_eq1
theorem qlen_str : dLen (.str u) h q = (u.length ≤ sizeLine ∧ q (.int u.length) h) := rfl
theorem qtup_ref (e : h a = some (.lst ds)) : dTuple (.ref a) h q = q (.tup ds) h := by
  apply propext; show (∃ es, seqOf (.ref a) h = some es ∧ _) ↔ _; rw [seq_ref e]; exact ex_eq1
theorem toI_i : dToInt (.int i) h q = q (.int i) h := rfl
theorem toI_b {b : Bool} : dToInt (.bl b) h q = q (.int (if b then 1 else 0)) h := rfl
theorem toI_s : dToInt (.str u) h q = (∃ n, PySem.intText? (mkS u) = some n ∧ u.length ≤ 640 ∧ q (.int n) h) := rfl
theorem toS_i : dToStr (.int i) h q = (0 ≤ i ∧ i < 10 ^ 100 ∧ q (.str (TL.numL i.toNat)) h) := rfl
theorem toS_s : dToStr (.str u) h q = q (.str u) h := rfl
theorem qsl_ref {lo hi : Option Int} (e : h a = some (.lst ds)) : slC (.ref a) lo hi h q = ∀ p, h p = none → q (.ref p) (dup h p (.lst (cutD ds lo hi))) := by
  apply propext; show (∃ es, h a = some (.lst es) ∧ _) ↔ _; rw [e]; exact ⟨fun ⟨_, e, z⟩ => by cases e; exact z, fun z => ⟨_, rfl, z⟩⟩
theorem qsl_tup {lo hi : Option Int} : slC (.tup ds) lo hi h q = q (.tup (cutD ds lo hi)) h := rfl
theorem qsl_cl {lo hi : Option Int} : slC (.cl ds) lo hi h q = ∀ p, h p = none → q (.ref p) (dup h p (.lst (cutD ds lo hi))) := rfl
theorem qsl_str {lo hi : Option Int} : slC (.str u) lo hi h q = (u.length ≤ sizeLine ∧ q (.str (cutD u lo hi)) h) := rfl
theorem isi_ {T : Nat} {bb : Bool} (e : isa T x h = some bb) : dIsi T x h q = q (.bl bb) h := by
  apply propext; show (∃ b, isa T x h = some b ∧ _) ↔ _; rw [e]; exact ex_eq1
end
section
variable {h : DH} {q : DQ} {a : Addr} {u v z : List Nat} {ds : List D}
theorem strs_map : ∀ ys : List (List Nat), strsD (ys.map .str) = some ys
  | [] => rfl
  | y :: r => by rw [List.map_cons, strsD, strs_map r]; rfl
theorem join_ref {ys : List (List Nat)} (e : h a = some (.lst (ys.map .str))) : dJoin z (.ref a) h q = ((ys.map (·.length)).sum + ys.length * z.length ≤ 16777216 ∧ q (.str (TL.joinL z ys)) h) := by
  apply propext; show (∃ ds xs, seqOf (.ref a) h = some ds ∧ strsD ds = some xs ∧ _) ↔ _
  rw [seq_ref e]
  constructor
  · rintro ⟨_, xs, e1, e2, w⟩; cases e1; rw [strs_map] at e2; cases e2; exact w
  · intro w; exact ⟨_, ys, rfl, strs_map _, w⟩
theorem split_1 {c : Nat} (hc : c < 256) : dSplit u (.str [c]) h q = (u.length + 2 ≤ sizeLine ∧ ∀ p, h p = none → q (.ref p) (dup h p (.lst ((TL.spl [c] 0 [] u).map .str)))) := by
  apply propext; show (∃ d, D.str [c] = .str [d] ∧ d < 256 ∧ _) ↔ _
  exact ⟨fun ⟨d, e, _, w⟩ => by cases e; exact w, fun w => ⟨c, rfl, hc, w⟩⟩
theorem qin_str {c : Nat} : dIn (.str [c]) (.str z) h q = q (.bl (decide (c ∈ z))) h := by
  apply propext; show (∃ d, D.str [c] = .str [d] ∧ _) ↔ _
  exact ⟨fun ⟨d, e, w⟩ => by cases e; exact w, fun w => ⟨c, rfl, w⟩⟩
theorem qnin_str {c : Nat} : dNin (.str [c]) (.str z) h q = q (.bl (!decide (c ∈ z))) h := by
  apply propext; show (∃ d, D.str [c] = .str [d] ∧ _) ↔ _
  exact ⟨fun ⟨d, e, w⟩ => by cases e; exact w, fun w => ⟨c, rfl, w⟩⟩
theorem flat_strs : ∀ ys : List (List Nat), (ys.map D.str).all D.flat = true
  | [] => rfl
  | y :: r => by rw [List.map_cons, List.all_cons, flat_strs r]; rfl
theorem any_strs (z : List Nat) : ∀ ys : List (List Nat), (ys.map D.str).any (fun d => eqF d (.str z)) = decide (z ∈ ys)
  | [] => by simp
  | y :: r => by
    rw [List.map_cons, List.any_cons, any_strs z r]
    have : eqF (.str y) (.str z) = decide (y = z) := by
      show _ = _
      unfold eqF; rfl
    rw [this]
    by_cases e : y = z
    · simp [e]
    · simp [e, Ne.symm e]
theorem in_tupS {ys : List (List Nat)} : dIn (.str z) (.tup (ys.map .str)) h q = q (.bl (decide (z ∈ ys))) h := by
  apply propext; show (_ ∧ _ ∧ _) ↔ _
  rw [any_strs]; exact ⟨fun ⟨_, _, w⟩ => w, fun w => ⟨rfl, flat_strs _, w⟩⟩
theorem nin_tupS {ys : List (List Nat)} : dNin (.str z) (.tup (ys.map .str)) h q = q (.bl (!decide (z ∈ ys))) h := by
  apply propext; show (_ ∧ _ ∧ _) ↔ _
  rw [any_strs]; exact ⟨fun ⟨_, _, w⟩ => w, fun w => ⟨rfl, flat_strs _, w⟩⟩
theorem in_refS {ys : List (List Nat)} (e : h a = some (.lst (ys.map .str))) (w : q (.bl (decide (z ∈ ys))) h) : dIn (.str z) (.ref a) h q :=
  ⟨_, e, .inl ⟨rfl, flat_strs _, by rw [any_strs]; exact w⟩⟩
theorem nin_refS {ys : List (List Nat)} (e : h a = some (.lst (ys.map .str))) (w : q (.bl (!decide (z ∈ ys))) h) : dNin (.str z) (.ref a) h q :=
  ⟨_, e, .inl ⟨rfl, flat_strs _, by rw [any_strs]; exact w⟩⟩
theorem append_ {y : D} : dAppend a ds y h q = (ds.length < sizeLine ∧ q .non (dup h a (.lst (ds ++ [y])))) := rfl
theorem cut_map {α β : Type} (f : α → β) (xs : List α) (lo hi : Option Int) : cutD (xs.map f) lo hi = (cutD xs lo hi).map f := by
  unfold cutD; rw [List.length_map, List.map_take, List.map_drop]
theorem cut_take {α : Type} (xs : List α) (n : Nat) : cutD xs none (some (n : Int)) = xs.take n := by
  unfold cutD; rw [HT.sIx_none, HT.sIx_nat, List.drop_zero, Nat.sub_zero]
  by_cases h : n ≤ xs.length
  · rw [Nat.min_eq_left h]
  · rw [Nat.min_eq_right (by omega), List.take_of_length_le (Nat.le_refl _), List.take_of_length_le (by omega)]
theorem cut_drop {α : Type} (xs : List α) (n : Nat) : cutD xs (some (n : Int)) none = xs.drop n := by
  unfold cutD; rw [HT.sIx_nat, HT.sIx_none]
  by_cases h : n ≤ xs.length
  · rw [Nat.min_eq_left h, List.take_of_length_le (by simp)]
  · rw [Nat.min_eq_right (by omega), Nat.sub_self, List.take_zero, List.drop_eq_nil_of_le (by omega)]
end
section
variable {te to tk : DTE} {E : DEnds} {s : DS} {h : DH}
/-- xs[k] = y -/
def stI (E : DEnds) (s : DS) (y x k : D) (h : DH) : Prop := ∃ a xs i j, x = .ref a ∧ k = .int i ∧ h a = some (.lst xs) ∧ ixN xs.length i = some j ∧ E.nx s (dup h a (.lst (xs.set j y)))
theorem dStI_e : dStI te to tk E s h = te s h fun y h1 => to s h1 fun x h2 => tk s h2 fun k h3 => stI E s y x k h3 := rfl
theorem stI_ {a : Addr} {xs : List D} {i : Int} {j : Nat} {y : D} (e : h a = some (.lst xs)) (f : ixN xs.length i = some j) : stI E s y (.ref a) (.int i) h = E.nx s (dup h a (.lst (xs.set j y))) := by
  apply propext
  exact ⟨fun ⟨_, _, _, _, e1, e2, e3, e4, z⟩ => by cases e1; cases e2; rw [e] at e3; cases e3; rw [f] at e4; cases e4; exact z, fun z => ⟨_, _, _, _, rfl, rfl, e, f, z⟩⟩
end
section
variable {rd : Addr → List D → D → DH → DQ → Prop} {rd0 : Addr → List D → DH → DQ → Prop} {te to : DTE} {s : DS} {h : DH} {q : DQ}
def l1C (rd : Addr → List D → D → DH → DQ → Prop) (ta : DTE) (s : DS) (q : DQ) (x : D) (h1 : DH) : Prop := ∃ a, x = .ref a ∧ (∃ ds, h1 a = some (.lst ds)) ∧ ta s h1 fun y h2 => ∃ ds, h2 a = some (.lst ds) ∧ rd a ds y h2 q
theorem dL1_e : dL1 rd to te s h q = to s h fun x h1 => l1C rd te s q x h1 := rfl
theorem l1_ {a : Addr} {ds : List D} (e : h a = some (.lst ds)) : l1C rd te s q (.ref a) h = te s h fun y h2 => ∃ ds, h2 a = some (.lst ds) ∧ rd a ds y h2 q := by
  apply propext
  exact ⟨fun ⟨_, e1, _, z⟩ => by cases e1; exact z, fun z => ⟨_, rfl, ⟨_, e⟩, z⟩⟩
end
section
variable {te to : DTE} {t : DTA} {sp : DSp} {w : DW} {E : DEnds} {s : DS} {h : DH} {q : DQ} {c i : Nat}
def fldC (c i : Nat) (q : DQ) (x : D) (h : DH) : Prop := ∃ a fs d, x = .ref a ∧ h a = some (.ins c fs) ∧ fs[i]? = some d ∧ q d h
theorem dFld_e : dFld c i to s h q = to s h fun x h1 => fldC c i q x h1 := rfl
theorem fld_ {a : Addr} {fs : List D} {d : D} (e : h a = some (.ins c fs)) (f : fs[i]? = some d) : fldC c i q (.ref a) h = q d h := by
  apply propext
  exact ⟨fun ⟨_, _, _, e1, e2, e3, z⟩ => by cases e1; rw [e] at e2; cases e2; rw [f] at e3; cases e3; exact z, fun z => ⟨_, _, _, rfl, e, f, z⟩⟩
def stfC (c i : Nat) (E : DEnds) (s : DS) (y x : D) (h : DH) : Prop := ∃ a fs, x = .ref a ∧ h a = some (.ins c fs) ∧ i ≤ fs.length ∧ E.nx s (dup h a (.ins c (putAt fs i y)))
theorem dStF_e : dStF c i te to E s h = te s h fun y h1 => to s h1 fun x h2 => stfC c i E s y x h2 := rfl
theorem stf_ {a : Addr} {fs : List D} {y : D} (e : h a = some (.ins c fs)) (l : i ≤ fs.length) : stfC c i E s y (.ref a) h = E.nx s (dup h a (.ins c (putAt fs i y))) := by
  apply propext
  exact ⟨fun ⟨_, _, e1, e2, e3, z⟩ => by cases e1; rw [e] at e2; cases e2; exact z, fun z => ⟨_, _, rfl, e, l, z⟩⟩
def methC (c : Nat) (sp : DSp) (w : DW) (t : DTA) (s : DS) (q : DQ) (x : D) (h : DH) : Prop := ∃ a fs, x = .ref a ∧ h a = some (.ins c fs) ∧ t s h fun ds h2 => sp (x :: ds) h2 q fun c fs h' => w c fs s h'
theorem dMeth_e : dMeth c sp w to t s h q = to s h fun x h1 => methC c sp w t s q x h1 := rfl
theorem meth_ {a : Addr} {fs : List D} (e : h a = some (.ins c fs)) : methC c sp w t s q (.ref a) h = t s h fun ds h2 => sp (.ref a :: ds) h2 q fun c fs h' => w c fs s h' := by
  apply propext
  exact ⟨fun ⟨_, _, e1, _, z⟩ => by cases e1; exact z, fun z => ⟨_, _, rfl, e, z⟩⟩
end
end ML

set_option Elab.async false
set_option linter.all false
set_option maxRecDepth 100000
set_option maxHeartbeats 0
namespace k60
open PySem PySem.Spec PyProof.Rows L2 ML
def c_FIGURES : D := .str [48, 49, 50, 51, 52, 53, 54, 55, 56, 57]
def c_KEPT : D := .tup [.str [100, 101, 102], .str [115, 101, 116], .str [114, 101, 97, 100], .str [119, 114, 105, 116, 101], .str [99, 97, 108, 108], .str [105, 102], .str [101, 108, 115, 101], .str [119, 104, 105, 108, 101], .str [103, 105, 118, 101], .str [101, 110, 100]]
def c_LETTERS : D := .str [97, 98, 99, 100, 101, 102, 103, 104, 105, 106, 107, 108, 109, 110, 111, 112, 113, 114, 115, 116, 117, 118, 119, 120, 121, 122]
def c_LONGEST : D := .int 8
def c_MOST_FIGURES_booktext : D := .int 4
def c_MOST_FIGURES_words : D := .int 18
def t_SORTS : List (List Nat × Int) := [([114, 101, 97, 100], 2), ([119, 114, 105, 116, 101], 2), ([97, 115, 107], 1), ([99, 97, 108, 108], 0)]
/-- the promises of all defs -/
structure Cl where
  made_of : DSp
  is_name : DSp
  is_number : DSp
  worded : DSp
  chain_rows : DSp
  book_text : DSp
  Lines___init : DSp
  Lines_here : DSp
  Lines_need : DSp
  Lines_read_numbers : DSp
  head_of : DSp
  what_of : DSp
  step_of : DSp
  chain_of : DSp
  read_book : DSp
  l_box : DSp
  l_take : DSp
  l_number : DSp
  l_names : DSp
  l_alike : DSp
  l_what : DSp
  l_chain : DSp
  l_worded : DSp
  l_chain_rows : DSp
  l_loose : DSp
  law : DSp
def tb_made_of_1 (C : Cl) (w : DW) : DTS := dIf (dTest (dOp dNin (dVar 2) (dVar 1))) (dRet (dC (.bl false))) (dNext)
def tb_made_of (C : Cl) (w : DW) : DTS := dSeq (dFor (iAny (dVar 0)) (gSet 2) (tb_made_of_1 C w)) (dRet (dOp dNe (dVar 0) (dC (.str []))))
def tb_is_name (C : Cl) (w : DW) : DTS := dRet (dAndV (dCall C.made_of w (dCons (dVar 0) (dCons (dC c_LETTERS) (dNil)))) (dAndV (dOp dLe (dUn dLen (dVar 0)) (dC c_LONGEST)) (dOp dNin (dVar 0) (dC c_KEPT))))
def tb_is_number (C : Cl) (w : DW) : DTS := dSeq (dIf (dOr (dNot (dTest (dCall C.made_of w (dCons (dVar 0) (dCons (dC c_FIGURES) (dNil)))))) (dTest (dOp dGt (dUn dLen (dVar 0)) (dC c_MOST_FIGURES_words)))) (dRet (dC (.bl false))) (dNext)) (dRet (dOrV (dOp dEq (dVar 0) (dC (.str [48]))) (dOp dNe (dOp dIx (dVar 0) (dC (.int 0))) (dC (.str [48])))))
def tb_worded (C : Cl) (w : DW) : DTS := dRet (dM1 dJoin (dC (.str [32])) (dLc (iAny (dVar 0)) (gSet 1) (dYes) (dUn dToStr (dVar 1)) [1]))
def tb_chain_rows_1 (C : Cl) (w : DW) : DTS := dIf (dTest (dOp dEq (dOp dIx (dVar 9) (dC (.int 0))) (dC (.str [99, 97, 108, 108])))) (dSeq (dDrop (dL1 dAppend (dVar 6) (dOp dAdd (dVar 10) (dC (.str [99, 97, 108, 108]))))) (dDrop (dL1 dExtend (dVar 6) (dCall C.chain_rows w (dCons (dOp dIx (dVar 9) (dC (.int 1))) (dCons (dOp dAdd (dVar 1) (dC (.str [32, 32]))) (dNil))))))) (dDrop (dL1 dAppend (dVar 6) (dOp dAdd (dVar 10) (dCall C.worded w (dCons (dVar 9) (dNil))))))
def tb_chain_rows_2 (C : Cl) (w : DW) : DTS := dSeq (dAsg (dOp dAdd (dOp dAdd (dOp dAdd (dVar 1) (dC (.str [32, 32]))) (dCall C.worded w (dCons (dOp dAdd (dOp dAdd (dTup (dCons (dVar 7) (dNil))) (dVar 8)) (dTup (dCons (dC (.str [58])) (dNil)))) (dNil)))) (dC (.str [32]))) (gSet 10)) (tb_chain_rows_1 C w)
def tb_chain_rows_3 (C : Cl) (w : DW) : DTS := dSeq (dFor (iAny (dVar 4)) (gUn 3 (gsCons (gSet 7) (gsCons (gSet 8) (gsCons (gSet 9) (gsNil))))) (tb_chain_rows_2 C w)) (dRet (dOp dAdd (dVar 6) (dLst (dCons (dOp dAdd (dVar 1) (dCall C.worded w (dCons (dTup (dCons (dC (.str [98, 97, 99, 107])) (dCons (dVar 5) (dNil)))) (dNil)))) (dNil)))))
def tb_chain_rows_4 (C : Cl) (w : DW) : DTS := dSeq (dAsg (dLst (dCons (dOp dAdd (dVar 1) (dCall C.worded w (dCons (dOp dAdd (dTup (dCons (dC (.str [99, 104, 97, 105, 110])) (dCons (dVar 2) (dNil)))) (dVar 3)) (dNil)))) (dNil))) (gSet 6)) (tb_chain_rows_3 C w)
def tb_chain_rows (C : Cl) (w : DW) : DTS := dSeq (dAsg (dVar 0) (gUn 4 (gsCons (gSet 2) (gsCons (gSet 3) (gsCons (gSet 4) (gsCons (gSet 5) (gsNil))))))) (tb_chain_rows_4 C w)
def tb_book_text (C : Cl) (w : DW) : DTS := dRet (dM1 dJoin (dC (.str [10])) (dCall C.chain_rows w (dCons (dVar 0) (dCons (dC (.str [])) (dNil)))))
def tb_Lines___init_1 (C : Cl) (w : DW) : DTS := dIf (dTest (dOp dGt (dUn dLen (dVar 5)) (dC (.int 0)))) (dDrop (dL1 dAppend (dFld 2 0 (dVar 0)) (dTup (dCons (dOp dAdd (dVar 3) (dC (.int 1))) (dCons (dVar 5) (dNil)))))) (dNext)
def tb_Lines___init_2 (C : Cl) (w : DW) : DTS := dSeq (dAsg (dLc (iAny (dM1 dSplit (dVar 4) (dC (.str [32])))) (gSet 6) (dTest (dOp dNe (dVar 6) (dC (.str [])))) (dVar 6) [6]) (gSet 5)) (tb_Lines___init_1 C w)
def tb_Lines___init_3 (C : Cl) (w : DW) : DTS := dSeq (dStF 2 1 (dOp dAdd (dUn dLen (dVar 2)) (dC (.int 1))) (dVar 0)) (dStF 2 2 (dC (.int 0)) (dVar 0))
def tb_Lines___init_4 (C : Cl) (w : DW) : DTS := dSeq (dFor (iEnum (dVar 2)) (gUn 2 (gsCons (gSet 3) (gsCons (gSet 4) (gsNil)))) (tb_Lines___init_2 C w)) (tb_Lines___init_3 C w)
def tb_Lines___init_5 (C : Cl) (w : DW) : DTS := dSeq (dAsg (dM1 dSplit (dVar 1) (dC (.str [10]))) (gSet 2)) (tb_Lines___init_4 C w)
def tb_Lines___init (C : Cl) (w : DW) : DTS := dSeq (dStF 2 0 (dLst (dNil)) (dVar 0)) (tb_Lines___init_5 C w)
def tb_Lines_here (C : Cl) (w : DW) : DTS := dSeq (dIf (dTest (dOp dEq (dFld 2 2 (dVar 0)) (dUn dLen (dFld 2 0 (dVar 0))))) (dNever) (dNext)) (dRet (dOp dIx (dOp dIx (dFld 2 0 (dVar 0)) (dFld 2 2 (dVar 0))) (dC (.int 1))))
def tb_Lines_need (C : Cl) (w : DW) : DTS := dIf (dNot (dTest (dVar 1))) (dNever) (dNext)
def tb_Lines_read_numbers_1 (C : Cl) (w : DW) : DTS := dDrop (dMeth 2 C.Lines_need w (dVar 0) (dCons (dCall C.is_number w (dCons (dVar 2) (dNil))) (dNil)))
def tb_Lines_read_numbers (C : Cl) (w : DW) : DTS := dSeq (dFor (iAny (dVar 1)) (gSet 2) (tb_Lines_read_numbers_1 C w)) (dRet (dUn dTuple (dLc (iAny (dVar 1)) (gSet 2) (dYes) (dUn dToInt (dVar 2)) [2])))
def tb_head_of_1 (C : Cl) (w : DW) : DTS := dSeq (dStF 2 2 (dOp dAdd (dFld 2 2 (dVar 0)) (dC (.int 1))) (dVar 0)) (dRet (dVar 2))
def tb_head_of_2 (C : Cl) (w : DW) : DTS := dSeq (dAsg (dTup (dCons (dOp dIx (dVar 1) (dC (.int 1))) (dCons (dMeth 2 C.Lines_read_numbers w (dVar 0) (dCons (dSl (dVar 1) (oSo (dC (.int 2))) (oNo)) (dNil))) (dNil)))) (gSet 2)) (tb_head_of_1 C w)
def tb_head_of_3 (C : Cl) (w : DW) : DTS := dSeq (dDrop (dMeth 2 C.Lines_need w (dVar 0) (dCons (dAndV (dOp dEq (dOp dIx (dVar 1) (dC (.int 0))) (dC (.str [99, 104, 97, 105, 110]))) (dAndV (dOp dGt (dUn dLen (dVar 1)) (dC (.int 1))) (dCall C.is_name w (dCons (dOp dIx (dVar 1) (dC (.int 1))) (dNil))))) (dNil)))) (tb_head_of_2 C w)
def tb_head_of (C : Cl) (w : DW) : DTS := dSeq (dAsg (dMeth 2 C.Lines_here w (dVar 0) dNil) (gSet 1)) (tb_head_of_3 C w)
def tb_what_of_1 (C : Cl) (w : DW) : DTS := dSeq (dIf (dTest (dOp dEq (dOp dIx (dVar 1) (dC (.int 0))) (dC (.str [99, 97, 108, 108])))) (dRet (dTup (dCons (dC (.str [99, 97, 108, 108])) (dCons (dCall C.chain_of w (dCons (dVar 0) (dNil))) (dNil))))) (dNext)) (dRet (dOp dAdd (dTup (dCons (dOp dIx (dVar 1) (dC (.int 0))) (dNil))) (dVar 2)))
def tb_what_of_2 (C : Cl) (w : DW) : DTS := dSeq (dStF 2 2 (dOp dAdd (dFld 2 2 (dVar 0)) (dC (.int 1))) (dVar 0)) (tb_what_of_1 C w)
def tb_what_of_3 (C : Cl) (w : DW) : DTS := dSeq (dDrop (dMeth 2 C.Lines_need w (dVar 0) (dCons (dOrV (dOp dNe (dOp dIx (dVar 1) (dC (.int 0))) (dC (.str [97, 115, 107]))) (dOp dLt (dOp dIx (dVar 2) (dC (.int 0))) (dC (.int 2)))) (dNil)))) (tb_what_of_2 C w)
def tb_what_of_4 (C : Cl) (w : DW) : DTS := dSeq (dAsg (dMeth 2 C.Lines_read_numbers w (dVar 0) (dCons (dSl (dVar 1) (oSo (dC (.int 1))) (oNo)) (dNil))) (gSet 2)) (tb_what_of_3 C w)
def tb_what_of (C : Cl) (w : DW) : DTS := dSeq (dDrop (dMeth 2 C.Lines_need w (dVar 0) (dCons (dAndV (dOp dGt (dUn dLen (dVar 1)) (dC (.int 0))) (dAndV (dUn (dInG t_SORTS) (dOp dIx (dVar 1) (dC (.int 0)))) (dOp dEq (dUn dLen (dVar 1)) (dOp dAdd (dC (.int 1)) (dUn (dIxG t_SORTS) (dOp dIx (dVar 1) (dC (.int 0)))))))) (dNil)))) (tb_what_of_4 C w)
def tb_step_of_1 (C : Cl) (w : DW) : DTS := dSeq (dDrop (dMeth 2 C.Lines_need w (dVar 0) (dCons (dAndV (dOp dGt (dUn dLen (dVar 3)) (dC (.int 0))) (dOp dLe (dUn dLen (dOp dIx (dVar 1) (dC (.int 0)))) (dC c_MOST_FIGURES_booktext))) (dNil)))) (dRet (dTup (dCons (dOp dIx (dVar 3) (dC (.int 0))) (dCons (dSl (dVar 3) (oSo (dC (.int 1))) (oNo)) (dCons (dCall C.what_of w (dCons (dVar 0) (dCons (dSl (dVar 1) (oSo (dOp dAdd (dVar 2) (dC (.int 1)))) (oNo)) (dNil)))) (dNil))))))
def tb_step_of_2 (C : Cl) (w : DW) : DTS := dSeq (dAsg (dMeth 2 C.Lines_read_numbers w (dVar 0) (dCons (dSl (dVar 1) (oNo) (oSo (dVar 2))) (dNil))) (gSet 3)) (tb_step_of_1 C w)
def tb_step_of_3 (C : Cl) (w : DW) : DTS := dSeq (dAsg (dL1 dIndex (dVar 1) (dC (.str [58]))) (gSet 2)) (tb_step_of_2 C w)
def tb_step_of_4 (C : Cl) (w : DW) : DTS := dSeq (dDrop (dMeth 2 C.Lines_need w (dVar 0) (dCons (dOp dIn (dC (.str [58])) (dVar 1)) (dNil)))) (tb_step_of_3 C w)
def tb_step_of (C : Cl) (w : DW) : DTS := dSeq (dAsg (dMeth 2 C.Lines_here w (dVar 0) dNil) (gSet 1)) (tb_step_of_4 C w)
def tb_chain_of_1 (C : Cl) (w : DW) : DTS := dDrop (dL1 dAppend (dVar 3) (dCall C.step_of w (dCons (dVar 0) (dNil))))
def tb_chain_of_2 (C : Cl) (w : DW) : DTS := dSeq (dStF 2 2 (dOp dAdd (dFld 2 2 (dVar 0)) (dC (.int 1))) (dVar 0)) (dRet (dTup (dCons (dVar 1) (dCons (dVar 2) (dCons (dUn dTuple (dVar 3)) (dCons (dOp dIx (dVar 5) (dC (.int 0))) (dNil)))))))
def tb_chain_of_3 (C : Cl) (w : DW) : DTS := dSeq (dAsg (dMeth 2 C.Lines_read_numbers w (dVar 0) (dCons (dSl (dVar 4) (oSo (dC (.int 1))) (oNo)) (dNil))) (gSet 5)) (tb_chain_of_2 C w)
def tb_chain_of_4 (C : Cl) (w : DW) : DTS := dSeq (dDrop (dMeth 2 C.Lines_need w (dVar 0) (dCons (dOp dEq (dUn dLen (dVar 4)) (dC (.int 2))) (dNil)))) (tb_chain_of_3 C w)
def tb_chain_of_5 (C : Cl) (w : DW) : DTS := dSeq (dAsg (dMeth 2 C.Lines_here w (dVar 0) dNil) (gSet 4)) (tb_chain_of_4 C w)
def tb_chain_of_6 (C : Cl) (w : DW) : DTS := dSeq (dWhile (dTest (dOp dNe (dOp dIx (dMeth 2 C.Lines_here w (dVar 0) dNil) (dC (.int 0))) (dC (.str [98, 97, 99, 107])))) (tb_chain_of_1 C w)) (tb_chain_of_5 C w)
def tb_chain_of_7 (C : Cl) (w : DW) : DTS := dSeq (dAsg (dLst (dNil)) (gSet 3)) (tb_chain_of_6 C w)
def tb_chain_of (C : Cl) (w : DW) : DTS := dSeq (dAsg (dCall C.head_of w (dCons (dVar 0) (dNil))) (gUn 2 (gsCons (gSet 1) (gsCons (gSet 2) (gsNil))))) (tb_chain_of_7 C w)
def tb_read_book_1 (C : Cl) (w : DW) : DTS := dSeq (dDrop (dMeth 2 C.Lines_need w (dVar 1) (dCons (dOp dEq (dFld 2 2 (dVar 1)) (dUn dLen (dFld 2 0 (dVar 1)))) (dNil)))) (dRet (dVar 2))
def tb_read_book_2 (C : Cl) (w : DW) : DTS := dSeq (dAsg (dCall C.chain_of w (dCons (dVar 1) (dNil))) (gSet 2)) (tb_read_book_1 C w)
def tb_read_book (C : Cl) (w : DW) : DTS := dSeq (dAsg (dMake 2 C.Lines___init w (dCons (dVar 0) (dNil))) (gSet 1)) (tb_read_book_2 C w)
def tb_l_box_1 (C : Cl) (w : DW) : DTS := dSeq (dAsg (dOp dAdd (dOp dMod (dOp dAdd (dOp dMul (dOp dMod (dVar 2) (dC (.int 2147483629))) (dC (.int 48271))) (dOp dMul (dC (.int 40692)) (dVar 1))) (dC (.int 2147483646))) (dC (.int 1))) (gSet 3)) (dRet (dLst (dCons (dOp dMul (dVar 2) (dUn dToInt (dOp dGe (dVar 2) (dOp dPow (dC (.int 10)) (dC (.int 18)))))) (dCons (dVar 3) (dNil)))))
def tb_l_box_2 (C : Cl) (w : DW) : DTS := dSeq (dIf (dTest (dOp dLt (dVar 1) (dUn dLen (dVar 0)))) (dAsg (dOp dIx (dVar 0) (dVar 1)) (gSet 2)) (dIf (dTest (dOp dGt (dUn dLen (dVar 0)) (dC (.int 0)))) (dAsg (dOp dAdd (dVar 2) (dOp dMul (dOp dMod (dOp dIx (dVar 0) (dOp dMod (dVar 1) (dUn dLen (dVar 0)))) (dC (.int 2147483629))) (dC (.int 69621)))) (gSet 2)) (dNext))) (tb_l_box_1 C w)
def tb_l_box (C : Cl) (w : DW) : DTS := dSeq (dAsg (dOp dAdd (dOp dMul (dC (.int 7919)) (dVar 1)) (dC (.int 11))) (gSet 2)) (tb_l_box_2 C w)
def tb_l_take_1 (C : Cl) (w : DW) : DTS := dSeq (dStI (dOp dDiv (dOp dIx (dVar 0) (dC (.int 0))) (dVar 1)) (dVar 0) (dC (.int 0))) (dRet (dVar 2))
def tb_l_take_2 (C : Cl) (w : DW) : DTS := dSeq (dIf (dTest (dOp dGt (dVar 1) (dOp dPow (dC (.int 10)) (dC (.int 9))))) (dAsg (dOp dMul (dVar 4) (dVar 4)) (gSet 4)) (dNext)) (dRet (dOp dMod (dVar 4) (dVar 1)))
def tb_l_take_3 (C : Cl) (w : DW) : DTS := dSeq (dAsg (dOp dDiv (dOp dAdd (dOp dMul (dVar 3) (dC (.int 2147483647))) (dOp dIx (dVar 0) (dC (.int 1)))) (dC (.int 8191))) (gSet 4)) (tb_l_take_2 C w)
def tb_l_take_4 (C : Cl) (w : DW) : DTS := dSeq (dStI (dOp dAdd (dOp dMod (dOp dAdd (dOp dMul (dVar 3) (dC (.int 48271))) (dC (.int 30103))) (dC (.int 2147483646))) (dC (.int 1))) (dVar 0) (dC (.int 1))) (tb_l_take_3 C w)
def tb_l_take_5 (C : Cl) (w : DW) : DTS := dSeq (dAsg (dOp dMod (dOp dMul (dOp dIx (dVar 0) (dC (.int 1))) (dC (.int 69621))) (dC (.int 2147483647))) (gSet 3)) (tb_l_take_4 C w)
def tb_l_take (C : Cl) (w : DW) : DTS := dSeq (dIf (dTest (dOp dGt (dOp dIx (dVar 0) (dC (.int 0))) (dC (.int 0)))) (dSeq (dAsg (dOp dMod (dOp dIx (dVar 0) (dC (.int 0))) (dVar 1)) (gSet 2)) (tb_l_take_1 C w)) (dNext)) (tb_l_take_5 C w)
def tb_l_number (C : Cl) (w : DW) : DTS := dSeq (dIf (dTest (dOp dEq (dCall C.l_take w (dCons (dVar 0) (dCons (dC (.int 4)) (dNil)))) (dC (.int 0)))) (dRet (dCall C.l_take w (dCons (dVar 0) (dCons (dOp dPow (dC (.int 10)) (dC (.int 18))) (dNil))))) (dNext)) (dRet (dCall C.l_take w (dCons (dVar 0) (dCons (dC (.int 9)) (dNil)))))
def tb_l_names_1 (C : Cl) (w : DW) : DTS := dSeq (dIf (dTest (dOp dIn (dVar 11) (dTup (dCons (dC (.str [100, 101, 102])) (dCons (dC (.str [115, 101, 116])) (dCons (dC (.str [114, 101, 97, 100])) (dCons (dC (.str [119, 114, 105, 116, 101])) (dCons (dC (.str [99, 97, 108, 108])) (dCons (dC (.str [105, 102])) (dCons (dC (.str [101, 108, 115, 101])) (dCons (dC (.str [119, 104, 105, 108, 101])) (dCons (dC (.str [103, 105, 118, 101])) (dCons (dC (.str [101, 110, 100])) (dNil)))))))))))))) (dAsg (dOp dAdd (dC (.str [113, 113, 113, 113, 113, 113, 113])) (dVar 10)) (gSet 11)) (dNext)) (dDrop (dL1 dAppend (dVar 8) (dVar 11)))
def tb_l_names_2 (C : Cl) (w : DW) : DTS := dSeq (dIf (dTest (dOp dEq (dVar 7) (dC (.int 2)))) (dAsg (dOp dAdd (dM1 dJoin (dC (.str [])) (dLc (iRng1 (dCall C.l_take w (dCons (dVar 0) (dCons (dC (.int 8)) (dNil))))) (gSet 14) (dYes) (dOp dIx (dVar 2) (dCall C.l_take dNoW (dCons (dVar 0) (dCons (dC (.int 26)) (dNil))))) [14])) (dVar 10)) (gSet 11)) (dNext)) (tb_l_names_1 C w)
def tb_l_names_3 (C : Cl) (w : DW) : DTS := dSeq (dIf (dAnd (dTest (dOp dEq (dVar 7) (dC (.int 1)))) (dTest (dOp dEq (dOp dMod (dVar 9) (dC (.int 2))) (dC (.int 1))))) (dAsg (dOp dAdd (dVar 11) (dC (.str [122]))) (gSet 11)) (dNext)) (tb_l_names_2 C w)
def tb_l_names_4 (C : Cl) (w : DW) : DTS := dSeq (dAsg (dOp dAdd (dOp dAdd (dM1 dJoin (dC (.str [])) (dSl (dVar 5) (oNo) (oSo (dVar 4)))) (dVar 10)) (dM1 dJoin (dC (.str [])) (dSl (dVar 5) (oSo (dOp dAdd (dVar 4) (dC (.int 1)))) (oNo)))) (gSet 11)) (tb_l_names_3 C w)
def tb_l_names_5 (C : Cl) (w : DW) : DTS := dSeq (dAsg (dOp dIx (dVar 2) (dOp dMod (dOp dAdd (dVar 6) (dOp dMul (dC (.int 5)) (dVar 9))) (dC (.int 26)))) (gSet 10)) (tb_l_names_4 C w)
def tb_l_names_6 (C : Cl) (w : DW) : DTS := dIf (dTest (dOp dNin (dVar 13) (dVar 8))) (dStI (dVar 13) (dVar 8) (dCall C.l_take w (dCons (dVar 0) (dCons (dVar 1) (dNil))))) (dNext)
def tb_l_names_7 (C : Cl) (w : DW) : DTS := dSeq (dAsg (dOp dIx (dVar 12) (dCall C.l_take w (dCons (dVar 0) (dCons (dC (.int 13)) (dNil))))) (gSet 13)) (tb_l_names_6 C w)
def tb_l_names_8 (C : Cl) (w : DW) : DTS := dSeq (dIf (dTest (dOp dEq (dCall C.l_take w (dCons (dVar 0) (dCons (dC (.int 6)) (dNil)))) (dC (.int 0)))) (dSeq (dAsg (dLst (dCons (dC (.str [110, 117, 109])) (dCons (dC (.str [118, 97, 114])) (dCons (dC (.str [111, 112])) (dCons (dC (.str [103, 111])) (dCons (dC (.str [97, 115, 107])) (dCons (dC (.str [98, 97, 99, 107])) (dCons (dC (.str [99, 104, 97, 105, 110])) (dCons (dC (.str [115, 101, 116, 115])) (dCons (dC (.str [105, 102, 102])) (dCons (dC (.str [101, 110, 100, 115])) (dCons (dC (.str [99, 97, 108, 108, 115])) (dCons (dC (.str [114, 101, 97, 100, 115])) (dCons (dC (.str [103, 105, 118, 101, 115])) (dNil))))))))))))))) (gSet 12)) (tb_l_names_7 C w)) (dNext)) (dRet (dVar 8))
def tb_l_names_9 (C : Cl) (w : DW) : DTS := dSeq (dFor (iRng1 (dVar 1)) (gSet 9) (tb_l_names_5 C w)) (tb_l_names_8 C w)
def tb_l_names_10 (C : Cl) (w : DW) : DTS := dSeq (dAsg (dLst (dNil)) (gSet 8)) (tb_l_names_9 C w)
def tb_l_names_11 (C : Cl) (w : DW) : DTS := dSeq (dAsg (dCall C.l_take w (dCons (dVar 0) (dCons (dC (.int 3)) (dNil)))) (gSet 7)) (tb_l_names_10 C w)
def tb_l_names_12 (C : Cl) (w : DW) : DTS := dSeq (dAsg (dCall C.l_take w (dCons (dVar 0) (dCons (dC (.int 26)) (dNil)))) (gSet 6)) (tb_l_names_11 C w)
def tb_l_names_13 (C : Cl) (w : DW) : DTS := dSeq (dAsg (dLc (iRng1 (dVar 3)) (gSet 9) (dYes) (dOp dIx (dVar 2) (dCall C.l_take dNoW (dCons (dVar 0) (dCons (dC (.int 26)) (dNil))))) [9]) (gSet 5)) (tb_l_names_12 C w)
def tb_l_names_14 (C : Cl) (w : DW) : DTS := dSeq (dAsg (dCall C.l_take w (dCons (dVar 0) (dCons (dVar 3) (dNil)))) (gSet 4)) (tb_l_names_13 C w)
def tb_l_names_15 (C : Cl) (w : DW) : DTS := dSeq (dAsg (dOp dAdd (dC (.int 1)) (dCall C.l_take w (dCons (dVar 0) (dCons (dC (.int 6)) (dNil))))) (gSet 3)) (tb_l_names_14 C w)
def tb_l_names (C : Cl) (w : DW) : DTS := dSeq (dAsg (dC (.str [97, 98, 99, 100, 101, 102, 103, 104, 105, 106, 107, 108, 109, 110, 111, 112, 113, 114, 115, 116, 117, 118, 119, 120, 121, 122])) (gSet 2)) (tb_l_names_15 C w)
def tb_l_alike_1 (C : Cl) (w : DW) : DTS := dSeq (dIf (dTest (dUn (dIsi 0) (dVar 1))) (dRet (dAndV (dUn (dIsi 0) (dVar 0)) (dOp dEq (dVar 0) (dVar 1)))) (dNext)) (dRet (dAndV (dUn (dIsi 1) (dVar 0)) (dAndV (dNotV (dUn (dIsi 4) (dVar 0))) (dOp dEq (dVar 0) (dVar 1)))))
def tb_l_alike (C : Cl) (w : DW) : DTS := dSeq (dIf (dTest (dUn (dIsi 2) (dVar 1))) (dSeq (dIf (dOr (dNot (dTest (dUn (dIsi 2) (dVar 0)))) (dTest (dOp dNe (dUn dLen (dVar 0)) (dUn dLen (dVar 1))))) (dRet (dC (.bl false))) (dNext)) (dRet (dUn dAll (dLc (iRng1 (dUn dLen (dVar 1))) (gSet 2) (dYes) (dCall C.l_alike dNoW (dCons (dOp dIx (dVar 0) (dVar 2)) (dCons (dOp dIx (dVar 1) (dVar 2)) (dNil)))) [2])))) (dNext)) (tb_l_alike_1 C w)
def tb_l_what_1 (C : Cl) (w : DW) : DTS := dSeq (dIf (dOr (dTest (dOp dEq (dVar 4) (dC (.int 3)))) (dTest (dOp dEq (dVar 3) (dC (.int 0))))) (dRet (dTup (dCons (dC (.str [97, 115, 107])) (dCons (dCall C.l_take w (dCons (dVar 0) (dCons (dC (.int 2)) (dNil)))) (dNil))))) (dNext)) (dRet (dTup (dCons (dC (.str [99, 97, 108, 108])) (dCons (dCall C.l_chain w (dCons (dVar 0) (dCons (dVar 1) (dCons (dVar 2) (dCons (dOp dSub (dVar 3) (dC (.int 1))) (dNil)))))) (dNil)))))
def tb_l_what_2 (C : Cl) (w : DW) : DTS := dSeq (dIf (dTest (dOp dEq (dVar 4) (dC (.int 2)))) (dRet (dTup (dCons (dC (.str [119, 114, 105, 116, 101])) (dCons (dCall C.l_number w (dCons (dVar 0) (dNil))) (dCons (dCall C.l_number w (dCons (dVar 0) (dNil))) (dNil)))))) (dNext)) (tb_l_what_1 C w)
def tb_l_what_3 (C : Cl) (w : DW) : DTS := dSeq (dIf (dTest (dOp dLt (dVar 4) (dC (.int 2)))) (dRet (dTup (dCons (dC (.str [114, 101, 97, 100])) (dCons (dCall C.l_number w (dCons (dVar 0) (dNil))) (dCons (dCall C.l_number w (dCons (dVar 0) (dNil))) (dNil)))))) (dNext)) (tb_l_what_2 C w)
def tb_l_what (C : Cl) (w : DW) : DTS := dSeq (dAsg (dCall C.l_take w (dCons (dVar 0) (dCons (dC (.int 6)) (dNil)))) (gSet 4)) (tb_l_what_3 C w)
def tb_l_chain_1 (C : Cl) (w : DW) : DTS := dSeq (dAsg (dUn dTuple (dLc (iRng1 (dCall C.l_take w (dCons (dVar 0) (dCons (dC (.int 4)) (dNil))))) (gSet 10) (dYes) (dCall C.l_number dNoW (dCons (dVar 0) (dNil))) [10])) (gSet 9)) (dDrop (dL1 dAppend (dVar 6) (dTup (dCons (dVar 8) (dCons (dVar 9) (dCons (dCall C.l_what w (dCons (dVar 0) (dCons (dVar 1) (dCons (dVar 2) (dCons (dVar 3) (dNil)))))) (dNil)))))))
def tb_l_chain_2 (C : Cl) (w : DW) : DTS := dSeq (dAsg (dCall C.l_take w (dCons (dVar 0) (dCons (dOp dIx (dLst (dCons (dC (.int 9)) (dCons (dC (.int 10000)) (dNil)))) (dUn dToInt (dOp dEq (dCall C.l_take w (dCons (dVar 0) (dCons (dC (.int 5)) (dNil)))) (dC (.int 0))))) (dNil)))) (gSet 8)) (tb_l_chain_1 C w)
def tb_l_chain_3 (C : Cl) (w : DW) : DTS := dIf (dTest (dOp dGt (dOp dIx (dVar 2) (dC (.int 0))) (dC (.int 0)))) (dSeq (dStI (dOp dSub (dOp dIx (dVar 2) (dC (.int 0))) (dC (.int 1))) (dVar 2) (dC (.int 0))) (tb_l_chain_2 C w)) (dNext)
def tb_l_chain_4 (C : Cl) (w : DW) : DTS := dSeq (dFor (iRng1 (dCall C.l_take w (dCons (dVar 0) (dCons (dC (.int 7)) (dNil))))) (gSet 7) (tb_l_chain_3 C w)) (dRet (dTup (dCons (dVar 5) (dCons (dVar 4) (dCons (dUn dTuple (dVar 6)) (dCons (dCall C.l_number w (dCons (dVar 0) (dNil))) (dNil)))))))
def tb_l_chain_5 (C : Cl) (w : DW) : DTS := dSeq (dAsg (dLst (dNil)) (gSet 6)) (tb_l_chain_4 C w)
def tb_l_chain_6 (C : Cl) (w : DW) : DTS := dSeq (dAsg (dOp dIx (dVar 1) (dCall C.l_take w (dCons (dVar 0) (dCons (dUn dLen (dVar 1)) (dNil))))) (gSet 5)) (tb_l_chain_5 C w)
def tb_l_chain (C : Cl) (w : DW) : DTS := dSeq (dAsg (dUn dTuple (dLc (iRng1 (dCall C.l_take w (dCons (dVar 0) (dCons (dC (.int 4)) (dNil))))) (gSet 7) (dYes) (dCall C.l_number dNoW (dCons (dVar 0) (dNil))) [7])) (gSet 4)) (tb_l_chain_6 C w)
def tb_l_worded (C : Cl) (w : DW) : DTS := dRet (dM1 dJoin (dC (.str [32])) (dLc (iAny (dVar 0)) (gSet 1) (dYes) (dUn dToStr (dVar 1)) [1]))
def tb_l_chain_rows_1 (C : Cl) (w : DW) : DTS := dIf (dTest (dOp dEq (dOp dIx (dVar 5) (dC (.int 0))) (dC (.str [99, 97, 108, 108])))) (dSeq (dDrop (dL1 dAppend (dVar 2) (dOp dAdd (dOp dAdd (dVar 1) (dC (.str [32, 32]))) (dCall C.l_worded w (dCons (dOp dAdd (dOp dAdd (dTup (dCons (dVar 3) (dNil))) (dVar 4)) (dTup (dCons (dC (.str [58])) (dCons (dC (.str [99, 97, 108, 108])) (dNil))))) (dNil)))))) (dAsg (dOp dAdd (dVar 2) (dCall C.l_chain_rows w (dCons (dOp dIx (dVar 5) (dC (.int 1))) (dCons (dOp dAdd (dVar 1) (dC (.str [32, 32]))) (dNil))))) (gSet 2))) (dDrop (dL1 dAppend (dVar 2) (dOp dAdd (dOp dAdd (dVar 1) (dC (.str [32, 32]))) (dCall C.l_worded w (dCons (dOp dAdd (dOp dAdd (dOp dAdd (dTup (dCons (dVar 3) (dNil))) (dVar 4)) (dTup (dCons (dC (.str [58])) (dNil)))) (dVar 5)) (dNil))))))
def tb_l_chain_rows_2 (C : Cl) (w : DW) : DTS := dSeq (dFor (iAny (dOp dIx (dVar 0) (dC (.int 2)))) (gUn 3 (gsCons (gSet 3) (gsCons (gSet 4) (gsCons (gSet 5) (gsNil))))) (tb_l_chain_rows_1 C w)) (dRet (dOp dAdd (dVar 2) (dLst (dCons (dOp dAdd (dVar 1) (dCall C.l_worded w (dCons (dTup (dCons (dC (.str [98, 97, 99, 107])) (dCons (dOp dIx (dVar 0) (dC (.int 3))) (dNil)))) (dNil)))) (dNil)))))
def tb_l_chain_rows (C : Cl) (w : DW) : DTS := dSeq (dAsg (dLst (dCons (dOp dAdd (dVar 1) (dCall C.l_worded w (dCons (dOp dAdd (dTup (dCons (dC (.str [99, 104, 97, 105, 110])) (dCons (dOp dIx (dVar 0) (dC (.int 0))) (dNil)))) (dOp dIx (dVar 0) (dC (.int 1)))) (dNil)))) (dNil))) (gSet 2)) (tb_l_chain_rows_2 C w)
def tb_l_loose_1 (C : Cl) (w : DW) : DTS := dDrop (dL1 dAppend (dVar 2) (dOp dMul (dC (.str [32])) (dCall C.l_take w (dCons (dVar 0) (dCons (dC (.int 4)) (dNil))))))
def tb_l_loose_2 (C : Cl) (w : DW) : DTS := dAsg (dOp dAdd (dOp dAdd (dVar 6) (dOp dMul (dC (.str [32])) (dOp dAdd (dC (.int 1)) (dCall C.l_take w (dCons (dVar 0) (dCons (dC (.int 3)) (dNil))))))) (dVar 7)) (gSet 6)
def tb_l_loose_3 (C : Cl) (w : DW) : DTS := dSeq (dFor (iAny (dSl (dVar 5) (oSo (dC (.int 1))) (oNo))) (gSet 7) (tb_l_loose_2 C w)) (dDrop (dL1 dAppend (dVar 2) (dOp dAdd (dVar 6) (dOp dMul (dC (.str [32])) (dCall C.l_take w (dCons (dVar 0) (dCons (dC (.int 3)) (dNil))))))))
def tb_l_loose_4 (C : Cl) (w : DW) : DTS := dSeq (dAsg (dOp dAdd (dOp dMul (dC (.str [32])) (dCall C.l_take w (dCons (dVar 0) (dCons (dC (.int 4)) (dNil))))) (dOp dIx (dVar 5) (dC (.int 0)))) (gSet 6)) (tb_l_loose_3 C w)
def tb_l_loose_5 (C : Cl) (w : DW) : DTS := dSeq (dAsg (dM1 dSplit (dM1 dStrip (dVar 3) (dC (.str [32]))) (dC (.str [32]))) (gSet 5)) (tb_l_loose_4 C w)
def tb_l_loose_6 (C : Cl) (w : DW) : DTS := dSeq (dFor (iRng1 (dOp dDiv (dCall C.l_take w (dCons (dVar 0) (dCons (dC (.int 5)) (dNil)))) (dC (.int 3)))) (gSet 4) (tb_l_loose_1 C w)) (tb_l_loose_5 C w)
def tb_l_loose_7 (C : Cl) (w : DW) : DTS := dSeq (dFor (iAny (dVar 1)) (gSet 3) (tb_l_loose_6 C w)) (dRet (dM1 dJoin (dC (.str [10])) (dOp dAdd (dVar 2) (dOp dMul (dLst (dCons (dC (.str [])) (dNil))) (dCall C.l_take w (dCons (dVar 0) (dCons (dC (.int 3)) (dNil))))))))
def tb_l_loose (C : Cl) (w : DW) : DTS := dSeq (dAsg (dLst (dNil)) (gSet 2)) (tb_l_loose_7 C w)
def tb_law_1 (C : Cl) (w : DW) : DTS := dIf (dNot (dTest (dCall C.l_alike w (dCons (dCall C.read_book w (dCons (dCall C.l_loose w (dCons (dCall C.l_box w (dCons (dVar 0) (dCons (dVar 6) (dNil)))) (dCons (dVar 4) (dNil)))) (dNil))) (dCons (dVar 3) (dNil)))))) (dRet (dC (.bl false))) (dNext)
def tb_law_2 (C : Cl) (w : DW) : DTS := dSeq (dFor (iRng2 (dC (.int 1)) (dOp dAdd (dC (.int 2)) (dUn dLen (dSl (dVar 0) (oSo (dC (.int 1))) (oSo (dC (.int 6))))))) (gSet 6) (tb_law_1 C w)) (dRet (dAndV (dCall C.l_alike w (dCons (dCall C.read_book w (dCons (dVar 5) (dNil))) (dCons (dVar 3) (dNil)))) (dOp dEq (dCall C.book_text w (dCons (dVar 3) (dNil))) (dVar 5))))
def tb_law_3 (C : Cl) (w : DW) : DTS := dSeq (dIf (dOr (dNot (dTest (dUn (dIsi 0) (dVar 5)))) (dTest (dOp dNe (dVar 5) (dM1 dJoin (dC (.str [10])) (dVar 4))))) (dRet (dC (.bl false))) (dNext)) (tb_law_2 C w)
def tb_law_4 (C : Cl) (w : DW) : DTS := dSeq (dAsg (dCall C.book_text w (dCons (dVar 3) (dNil))) (gSet 5)) (tb_law_3 C w)
def tb_law_5 (C : Cl) (w : DW) : DTS := dSeq (dAsg (dCall C.l_chain_rows w (dCons (dVar 3) (dCons (dC (.str [])) (dNil)))) (gSet 4)) (tb_law_4 C w)
def tb_law_6 (C : Cl) (w : DW) : DTS := dSeq (dAsg (dCall C.l_chain w (dCons (dVar 1) (dCons (dVar 2) (dCons (dLst (dCons (dCall C.l_take w (dCons (dVar 1) (dCons (dC (.int 41)) (dNil)))) (dNil))) (dCons (dC (.int 5)) (dNil)))))) (gSet 3)) (tb_law_5 C w)
def tb_law_7 (C : Cl) (w : DW) : DTS := dSeq (dAsg (dOp dAdd (dCall C.l_names w (dCons (dVar 1) (dCons (dC (.int 6)) (dNil)))) (dLst (dCons (dC (.str [98, 97, 99, 107])) (dCons (dC (.str [99, 104, 97, 105, 110])) (dCons (dC (.str [97, 115, 107])) (dCons (dC (.str [98, 97, 99, 107, 115])) (dCons (dC (.str [99, 104, 97, 105, 110, 115])) (dCons (dC (.str [99, 97, 108, 108, 115])) (dNil))))))))) (gSet 2)) (tb_law_6 C w)
def tb_law (C : Cl) (w : DW) : DTS := dSeq (dAsg (dCall C.l_box w (dCons (dVar 0) (dCons (dC (.int 0)) (dNil)))) (gSet 1)) (tb_law_7 C w)
/-- a promise by so many calls within one another -/
def callD : Nat → Cl
  | 0 => ⟨fun _ _ _ _ => False, fun _ _ _ _ => False, fun _ _ _ _ => False, fun _ _ _ _ => False, fun _ _ _ _ => False, fun _ _ _ _ => False, fun _ _ _ _ => False, fun _ _ _ _ => False, fun _ _ _ _ => False, fun _ _ _ _ => False, fun _ _ _ _ => False, fun _ _ _ _ => False, fun _ _ _ _ => False, fun _ _ _ _ => False, fun _ _ _ _ => False, fun _ _ _ _ => False, fun _ _ _ _ => False, fun _ _ _ _ => False, fun _ _ _ _ => False, fun _ _ _ _ => False, fun _ _ _ _ => False, fun _ _ _ _ => False, fun _ _ _ _ => False, fun _ _ _ _ => False, fun _ _ _ _ => False, fun _ _ _ _ => False⟩
  | k + 1 => {
    made_of := body 3 2 (tb_made_of (callD k))
    is_name := body 1 1 (tb_is_name (callD k))
    is_number := body 1 1 (tb_is_number (callD k))
    worded := body 2 1 (tb_worded (callD k))
    chain_rows := body 11 2 (tb_chain_rows (callD k))
    book_text := body 1 1 (tb_book_text (callD k))
    Lines___init := body 7 2 (tb_Lines___init (callD k))
    Lines_here := body 1 1 (tb_Lines_here (callD k))
    Lines_need := body 2 2 (tb_Lines_need (callD k))
    Lines_read_numbers := body 3 2 (tb_Lines_read_numbers (callD k))
    head_of := body 3 1 (tb_head_of (callD k))
    what_of := body 3 2 (tb_what_of (callD k))
    step_of := body 4 1 (tb_step_of (callD k))
    chain_of := body 6 1 (tb_chain_of (callD k))
    read_book := body 3 1 (tb_read_book (callD k))
    l_box := body 4 2 (tb_l_box (callD k))
    l_take := body 5 2 (tb_l_take (callD k))
    l_number := body 1 1 (tb_l_number (callD k))
    l_names := body 15 2 (tb_l_names (callD k))
    l_alike := body 3 2 (tb_l_alike (callD k))
    l_what := body 5 4 (tb_l_what (callD k))
    l_chain := body 11 4 (tb_l_chain (callD k))
    l_worded := body 2 1 (tb_l_worded (callD k))
    l_chain_rows := body 6 2 (tb_l_chain_rows (callD k))
    l_loose := body 8 2 (tb_l_loose (callD k))
    law := body 7 1 (tb_law (callD k))
  }
theorem cd_made_of (k : Nat) : (callD (k + 1)).made_of = body 3 2 (tb_made_of (callD k)) := rfl
theorem cd_is_name (k : Nat) : (callD (k + 1)).is_name = body 1 1 (tb_is_name (callD k)) := rfl
theorem cd_is_number (k : Nat) : (callD (k + 1)).is_number = body 1 1 (tb_is_number (callD k)) := rfl
theorem cd_worded (k : Nat) : (callD (k + 1)).worded = body 2 1 (tb_worded (callD k)) := rfl
theorem cd_chain_rows (k : Nat) : (callD (k + 1)).chain_rows = body 11 2 (tb_chain_rows (callD k)) := rfl
theorem cd_book_text (k : Nat) : (callD (k + 1)).book_text = body 1 1 (tb_book_text (callD k)) := rfl
theorem cd_Lines___init (k : Nat) : (callD (k + 1)).Lines___init = body 7 2 (tb_Lines___init (callD k)) := rfl
theorem cd_Lines_here (k : Nat) : (callD (k + 1)).Lines_here = body 1 1 (tb_Lines_here (callD k)) := rfl
theorem cd_Lines_need (k : Nat) : (callD (k + 1)).Lines_need = body 2 2 (tb_Lines_need (callD k)) := rfl
theorem cd_Lines_read_numbers (k : Nat) : (callD (k + 1)).Lines_read_numbers = body 3 2 (tb_Lines_read_numbers (callD k)) := rfl
theorem cd_head_of (k : Nat) : (callD (k + 1)).head_of = body 3 1 (tb_head_of (callD k)) := rfl
theorem cd_what_of (k : Nat) : (callD (k + 1)).what_of = body 3 2 (tb_what_of (callD k)) := rfl
theorem cd_step_of (k : Nat) : (callD (k + 1)).step_of = body 4 1 (tb_step_of (callD k)) := rfl
theorem cd_chain_of (k : Nat) : (callD (k + 1)).chain_of = body 6 1 (tb_chain_of (callD k)) := rfl
theorem cd_read_book (k : Nat) : (callD (k + 1)).read_book = body 3 1 (tb_read_book (callD k)) := rfl
theorem cd_l_box (k : Nat) : (callD (k + 1)).l_box = body 4 2 (tb_l_box (callD k)) := rfl
theorem cd_l_take (k : Nat) : (callD (k + 1)).l_take = body 5 2 (tb_l_take (callD k)) := rfl
theorem cd_l_number (k : Nat) : (callD (k + 1)).l_number = body 1 1 (tb_l_number (callD k)) := rfl
theorem cd_l_names (k : Nat) : (callD (k + 1)).l_names = body 15 2 (tb_l_names (callD k)) := rfl
theorem cd_l_alike (k : Nat) : (callD (k + 1)).l_alike = body 3 2 (tb_l_alike (callD k)) := rfl
theorem cd_l_what (k : Nat) : (callD (k + 1)).l_what = body 5 4 (tb_l_what (callD k)) := rfl
theorem cd_l_chain (k : Nat) : (callD (k + 1)).l_chain = body 11 4 (tb_l_chain (callD k)) := rfl
theorem cd_l_worded (k : Nat) : (callD (k + 1)).l_worded = body 2 1 (tb_l_worded (callD k)) := rfl
theorem cd_l_chain_rows (k : Nat) : (callD (k + 1)).l_chain_rows = body 6 2 (tb_l_chain_rows (callD k)) := rfl
theorem cd_l_loose (k : Nat) : (callD (k + 1)).l_loose = body 8 2 (tb_l_loose (callD k)) := rfl
theorem cd_law (k : Nat) : (callD (k + 1)).law = body 7 1 (tb_law (callD k)) := rfl
end k60

set_option Elab.async false
set_option linter.all false
set_option maxRecDepth 100000
set_option maxHeartbeats 0
namespace k60
open PySem PySem.Spec PyProof.Rows L2 ML
abbrev P0 : Program := PySem.Challenge.pw_againbook_k60_books_written_and_read
def top (i : Nat) : Stmt := P0.main.body.getD i (.Pass ⟨0, 0, 0, 0⟩)
/-! ### the text -/
abbrev s_made_of : Stmt := top 9
theorem sc_made_of : FnScope ["text", "signs", "sign"] ["text", "signs"] (defScope s_made_of) := ⟨rfl, rfl, rfl, by decide +kernel, rfl, by decide +kernel, by decide +kernel⟩
abbrev s_is_name : Stmt := top 10
theorem sc_is_name : FnScope ["text"] ["text"] (defScope s_is_name) := ⟨rfl, rfl, rfl, by decide +kernel, rfl, by decide +kernel, by decide +kernel⟩
abbrev s_is_number : Stmt := top 11
theorem sc_is_number : FnScope ["text"] ["text"] (defScope s_is_number) := ⟨rfl, rfl, rfl, by decide +kernel, rfl, by decide +kernel, by decide +kernel⟩
abbrev s_worded : Stmt := top 15
theorem sc_worded : FnScope ["things", "thing"] ["things"] (defScope s_worded) := ⟨rfl, rfl, rfl, by decide +kernel, rfl, by decide +kernel, by decide +kernel⟩
abbrev s_chain_rows : Stmt := top 16
theorem sc_chain_rows : FnScope ["chain", "blanks", "name", "args", "steps", "answer", "found", "n", "held", "what", "ahead"] ["chain", "blanks"] (defScope s_chain_rows) := ⟨rfl, rfl, rfl, by decide +kernel, rfl, by decide +kernel, by decide +kernel⟩
abbrev s_book_text : Stmt := top 17
theorem sc_book_text : FnScope ["chain"] ["chain"] (defScope s_book_text) := ⟨rfl, rfl, rfl, by decide +kernel, rfl, by decide +kernel, by decide +kernel⟩
abbrev s_Lines___init : Stmt := inClass (top 18) 0
theorem sc_Lines___init : FnScope ["self", "text", "lines", "k", "line", "words", "word"] ["self", "text"] (defScope s_Lines___init) := ⟨rfl, rfl, rfl, by decide +kernel, rfl, by decide +kernel, by decide +kernel⟩
abbrev s_Lines_here : Stmt := inClass (top 18) 1
theorem sc_Lines_here : FnScope ["self"] ["self"] (defScope s_Lines_here) := ⟨rfl, rfl, rfl, by decide +kernel, rfl, by decide +kernel, by decide +kernel⟩
abbrev s_Lines_need : Stmt := inClass (top 18) 2
theorem sc_Lines_need : FnScope ["self", "truth"] ["self", "truth"] (defScope s_Lines_need) := ⟨rfl, rfl, rfl, by decide +kernel, rfl, by decide +kernel, by decide +kernel⟩
abbrev s_Lines_read_numbers : Stmt := inClass (top 18) 3
theorem sc_Lines_read_numbers : FnScope ["self", "words", "word"] ["self", "words"] (defScope s_Lines_read_numbers) := ⟨rfl, rfl, rfl, by decide +kernel, rfl, by decide +kernel, by decide +kernel⟩
abbrev s_head_of : Stmt := top 19
theorem sc_head_of : FnScope ["lines", "words", "found"] ["lines"] (defScope s_head_of) := ⟨rfl, rfl, rfl, by decide +kernel, rfl, by decide +kernel, by decide +kernel⟩
abbrev s_what_of : Stmt := top 20
theorem sc_what_of : FnScope ["lines", "words", "numbers"] ["lines", "words"] (defScope s_what_of) := ⟨rfl, rfl, rfl, by decide +kernel, rfl, by decide +kernel, by decide +kernel⟩
abbrev s_step_of : Stmt := top 21
theorem sc_step_of : FnScope ["lines", "words", "colon", "numbers"] ["lines"] (defScope s_step_of) := ⟨rfl, rfl, rfl, by decide +kernel, rfl, by decide +kernel, by decide +kernel⟩
abbrev s_chain_of : Stmt := top 22
theorem sc_chain_of : FnScope ["lines", "name", "args", "steps", "words", "answer"] ["lines"] (defScope s_chain_of) := ⟨rfl, rfl, rfl, by decide +kernel, rfl, by decide +kernel, by decide +kernel⟩
abbrev s_read_book : Stmt := top 23
theorem sc_read_book : FnScope ["text", "lines", "found"] ["text"] (defScope s_read_book) := ⟨rfl, rfl, rfl, by decide +kernel, rfl, by decide +kernel, by decide +kernel⟩
abbrev s_l_box : Stmt := top 25
theorem sc_l_box : FnScope ["_law_script", "_law_k", "_law_cell", "_law_seed"] ["_law_script", "_law_k"] (defScope s_l_box) := ⟨rfl, rfl, rfl, by decide +kernel, rfl, by decide +kernel, by decide +kernel⟩
abbrev s_l_take : Stmt := top 26
theorem sc_l_take : FnScope ["_law_box_here", "_law_wide", "_law_digit", "_law_one", "_law_mixed"] ["_law_box_here", "_law_wide"] (defScope s_l_take) := ⟨rfl, rfl, rfl, by decide +kernel, rfl, by decide +kernel, by decide +kernel⟩
abbrev s_l_number : Stmt := top 27
theorem sc_l_number : FnScope ["_law_box_here"] ["_law_box_here"] (defScope s_l_number) := ⟨rfl, rfl, rfl, by decide +kernel, rfl, by decide +kernel, by decide +kernel⟩
abbrev s_l_names : Stmt := top 28
theorem sc_l_names : FnScope ["_law_box_here", "_law_total", "_law_letters", "_law_wide", "_law_spot", "_law_signs", "_law_first", "_law_form", "_law_found", "_law_k", "_law_one", "_law_word", "_law_some", "_law_odd", "_law_j"] ["_law_box_here", "_law_total"] (defScope s_l_names) := ⟨rfl, rfl, rfl, by decide +kernel, rfl, by decide +kernel, by decide +kernel⟩
abbrev s_l_alike : Stmt := top 29
theorem sc_l_alike : FnScope ["_law_found", "_law_due", "_law_k"] ["_law_found", "_law_due"] (defScope s_l_alike) := ⟨rfl, rfl, rfl, by decide +kernel, rfl, by decide +kernel, by decide +kernel⟩
abbrev s_l_what : Stmt := top 30
theorem sc_l_what : FnScope ["_law_box_here", "_law_names_here", "_law_spare", "_law_deep", "_law_kind"] ["_law_box_here", "_law_names_here", "_law_spare", "_law_deep"] (defScope s_l_what) := ⟨rfl, rfl, rfl, by decide +kernel, rfl, by decide +kernel, by decide +kernel⟩
abbrev s_l_chain : Stmt := top 31
theorem sc_l_chain : FnScope ["_law_box_here", "_law_names_here", "_law_spare", "_law_deep", "_law_args", "_law_name", "_law_rows", "_law_k", "_law_n", "_law_held", "_law_j"] ["_law_box_here", "_law_names_here", "_law_spare", "_law_deep"] (defScope s_l_chain) := ⟨rfl, rfl, rfl, by decide +kernel, rfl, by decide +kernel, by decide +kernel⟩
abbrev s_l_worded : Stmt := top 32
theorem sc_l_worded : FnScope ["_law_things", "_law_thing"] ["_law_things"] (defScope s_l_worded) := ⟨rfl, rfl, rfl, by decide +kernel, rfl, by decide +kernel, by decide +kernel⟩
abbrev s_l_chain_rows : Stmt := top 33
theorem sc_l_chain_rows : FnScope ["_law_chain_here", "_law_ahead", "_law_rows", "_law_n", "_law_held", "_law_what_here"] ["_law_chain_here", "_law_ahead"] (defScope s_l_chain_rows) := ⟨rfl, rfl, rfl, by decide +kernel, rfl, by decide +kernel, by decide +kernel⟩
abbrev s_l_loose : Stmt := top 34
theorem sc_l_loose : FnScope ["_law_box_here", "_law_rows", "_law_found", "_law_row", "_law_k", "_law_words", "_law_text", "_law_word"] ["_law_box_here", "_law_rows"] (defScope s_l_loose) := ⟨rfl, rfl, rfl, by decide +kernel, rfl, by decide +kernel, by decide +kernel⟩
abbrev s_law : Stmt := top 35
theorem sc_law : FnScope ["_law_script", "_law_box_here", "_law_names_here", "_law_chain_here", "_law_rows", "_law_text", "_law_k"] ["_law_script"] (defScope s_law) := ⟨rfl, rfl, rfl, by decide +kernel, rfl, by decide +kernel, by decide +kernel⟩
def clsName : Nat → Str
  | 0 => "BookError"
  | 1 => "NoText"
  | 2 => "Lines"
  | _ => ""
def clsFields : Nat → List Str
  | 0 => []
  | 1 => ["line"]
  | 2 => ["rows", "end", "at"]
  | _ => []
def gv (K : PySem.W.Frag) : Gv := ⟨K, fun c => He.ga K (clsName c), clsFields⟩
structure Tx (w : World) (G : Gv) (mg : Str → Option Value) : Prop where
  z_all : mg "all" = none
  z_bool : mg "bool" = none
  z_enumerate : mg "enumerate" = none
  z_int : mg "int" = none
  z_isinstance : mg "isinstance" = none
  z_len : mg "len" = none
  z_range : mg "range" = none
  z_str : mg "str" = none
  z_tuple : mg "tuple" = none
  c_FIGURES : GVal mg G "FIGURES" c_FIGURES
  c_KEPT : GVal mg G "KEPT" c_KEPT
  c_LETTERS : GVal mg G "LETTERS" c_LETTERS
  c_LONGEST : GVal mg G "LONGEST" c_LONGEST
  c_MOST_FIGURES_booktext : GVal mg G "MOST_FIGURES_booktext" c_MOST_FIGURES_booktext
  c_MOST_FIGURES_words : GVal mg G "MOST_FIGURES_words" c_MOST_FIGURES_words
  t_SORTS : GTab mg G.K w "SORTS" t_SORTS
  cl_Lines : ClsD G 2
structure En (P : Program) (w : World) (G : Gv) (mg : Str → Option Value) (base : Heap) (n : Nat) (C : Cl) : Prop where
  made_of : GFn P w G mg base n "made_of" C.made_of
  is_name : GFn P w G mg base n "is_name" C.is_name
  is_number : GFn P w G mg base n "is_number" C.is_number
  worded : GFn P w G mg base n "worded" C.worded
  chain_rows : GFn P w G mg base n "chain_rows" C.chain_rows
  book_text : GFn P w G mg base n "book_text" C.book_text
  Lines___init : GMk P w G mg base n 2 "Lines" C.Lines___init
  Lines_here : GMe P w G mg base n 2 "here" C.Lines_here
  Lines_need : GMe P w G mg base n 2 "need" C.Lines_need
  Lines_read_numbers : GMe P w G mg base n 2 "read_numbers" C.Lines_read_numbers
  head_of : GFn P w G mg base n "head_of" C.head_of
  what_of : GFn P w G mg base n "what_of" C.what_of
  step_of : GFn P w G mg base n "step_of" C.step_of
  chain_of : GFn P w G mg base n "chain_of" C.chain_of
  read_book : GFn P w G mg base n "read_book" C.read_book
  l_box : GFn P w G mg base n "_law_box" C.l_box
  l_take : GFn P w G mg base n "_law_take" C.l_take
  l_number : GFn P w G mg base n "_law_number" C.l_number
  l_names : GFn P w G mg base n "_law_names" C.l_names
  l_alike : GFn P w G mg base n "_law_alike" C.l_alike
  l_what : GFn P w G mg base n "_law_what" C.l_what
  l_chain : GFn P w G mg base n "_law_chain" C.l_chain
  l_worded : GFn P w G mg base n "_law_worded" C.l_worded
  l_chain_rows : GFn P w G mg base n "_law_chain_rows" C.l_chain_rows
  l_loose : GFn P w G mg base n "_law_loose" C.l_loose
  law : GFn P w G mg base n "law" C.law
section
variable {P : Program} {w : World} {K : PySem.W.Frag} {mg : Str → Option Value} {base : Heap} {n : Nat} {C : Cl}
theorem ok_made_of {f : Addr} {fd : FuncData} (F : DfOk (gv K) "made_of" "made_of" s_made_of f fd) (T : Tx w (gv K) mg) (e : En P w (gv K) mg base n C) : FnO P w (gv K) mg base (n + 2) f fd ["text", "signs"] (body 3 2 (tb_made_of C)) :=
  fno (n := n + 1) F sc_made_of fun cdv A outer s H E w hr hp tk => have hr1 := hr.mono (Nat.le_succ n); dss_cons (dp_for hp rfl (di_any rfl (de_var 0)) (dg_name (i := 2) sc_made_of.nd) (dss_one (dp_if (dt_cv (de_nin rfl hr (de_var 2) (de_var 1))) (dss_one (dp_ret (de_bl))) (dss_nil)))) (dss_one (dp_ret (de_ne rfl hr (de_var 0) (de_str))))
theorem ok_is_name {f : Addr} {fd : FuncData} (F : DfOk (gv K) "is_name" "is_name" s_is_name f fd) (T : Tx w (gv K) mg) (e : En P w (gv K) mg base n C) : FnO P w (gv K) mg base (n + 2) f fd ["text"] (body 1 1 (tb_is_name C)) :=
  fno (n := n + 1) F sc_is_name fun cdv A outer s H E w hr hp tk => have hr1 := hr.mono (Nat.le_succ n); dss_one (dp_ret (de_and (de_call e.made_of rfl hr1 tk (da_cons (de_var 0) (da_cons (de_gv T.c_LETTERS) (da_nil)))) (de_and (de_le (de_len rfl T.z_len (de_var 0)) (de_gv T.c_LONGEST)) (de_one (de_nin rfl hr (de_var 0) (de_gv T.c_KEPT))))))
theorem ok_is_number {f : Addr} {fd : FuncData} (F : DfOk (gv K) "is_number" "is_number" s_is_number f fd) (T : Tx w (gv K) mg) (e : En P w (gv K) mg base n C) : FnO P w (gv K) mg base (n + 2) f fd ["text"] (body 1 1 (tb_is_number C)) :=
  fno (n := n + 1) F sc_is_number fun cdv A outer s H E w hr hp tk => have hr1 := hr.mono (Nat.le_succ n); dss_cons (dp_if (dt_w (dw_or (dt_not (dt_val (de_call e.made_of rfl hr1 tk (da_cons (de_var 0) (da_cons (de_gv T.c_FIGURES) (da_nil)))))) (dw_or1 (dt_cv (de_gt (de_len rfl T.z_len (de_var 0)) (de_gv T.c_MOST_FIGURES_words)))))) (dss_one (dp_ret (de_bl))) (dss_nil)) (dss_one (dp_ret (de_or (de_eq rfl hr (de_var 0) (de_str)) (de_one (de_ne rfl hr (de_ix rfl (de_var 0) (de_int)) (de_str))))))
theorem ok_worded {f : Addr} {fd : FuncData} (F : DfOk (gv K) "worded" "worded" s_worded f fd) (T : Tx w (gv K) mg) (e : En P w (gv K) mg base n C) : FnO P w (gv K) mg base (n + 2) f fd ["things"] (body 2 1 (tb_worded C)) :=
  fno (n := n + 1) F sc_worded fun cdv A outer s H E w hr hp tk => have hr1 := hr.mono (Nat.le_succ n); dss_one (dp_ret (de_join rfl (de_str) (de_lc [("thing", 1)] rfl sc_worded.nd (di_any rfl (de_var 0)) (by kernel_rfl) (fun _ _ _ _ _ => dv_name (i := 1) sc_worded.nd) (fun _ _ _ _ _ => dts_nil) (fun _ _ _ _ _ => de_toStr T.z_str (de_var 1)))))
theorem ok_chain_rows {f : Addr} {fd : FuncData} (F : DfOk (gv K) "chain_rows" "chain_rows" s_chain_rows f fd) (T : Tx w (gv K) mg) (e : En P w (gv K) mg base n C) : FnO P w (gv K) mg base (n + 2) f fd ["chain", "blanks"] (body 11 2 (tb_chain_rows C)) :=
  fno (n := n + 1) F sc_chain_rows fun cdv A outer s H E w hr hp tk => have hr1 := hr.mono (Nat.le_succ n); dss_cons (dp_asg (de_var 0) (dg_tup rfl rfl (dgs_cons (dg_name (i := 2) sc_chain_rows.nd) (dgs_cons (dg_name (i := 3) sc_chain_rows.nd) (dgs_cons (dg_name (i := 4) sc_chain_rows.nd) (dgs_cons (dg_name (i := 5) sc_chain_rows.nd) (dgs_nil))))))) (dss_cons (dp_set (i := 6) sc_chain_rows.nd (de_lst (da_cons (de_add rfl (de_var 1) (de_call e.worded rfl hr1 tk (da_cons (de_add rfl (de_tup (da_cons (de_str) (da_cons (de_var 2) (da_nil)))) (de_var 3)) (da_nil)))) (da_nil)))) (dss_cons (dp_for hp rfl (di_any rfl (de_var 4)) (dg_tup rfl rfl (dgs_cons (dg_name (i := 7) sc_chain_rows.nd) (dgs_cons (dg_name (i := 8) sc_chain_rows.nd) (dgs_cons (dg_name (i := 9) sc_chain_rows.nd) (dgs_nil))))) (dss_cons (dp_set (i := 10) sc_chain_rows.nd (de_add rfl (de_add rfl (de_add rfl (de_var 1) (de_str)) (de_call e.worded rfl hr1 tk (da_cons (de_add rfl (de_add rfl (de_tup (da_cons (de_var 7) (da_nil))) (de_var 8)) (de_tup (da_cons (de_str) (da_nil)))) (da_nil)))) (de_str))) (dss_one (dp_if (dt_cv (de_eq rfl hr (de_ix rfl (de_var 9) (de_int)) (de_str))) (dss_cons (dp_expr (de_append (de_var 6) (de_add rfl (de_var 10) (de_str)))) (dss_one (dp_expr (de_extend (de_var 6) (de_call e.chain_rows rfl hr1 tk (da_cons (de_ix rfl (de_var 9) (de_int)) (da_cons (de_add rfl (de_var 1) (de_str)) (da_nil)))))))) (dss_one (dp_expr (de_append (de_var 6) (de_add rfl (de_var 10) (de_call e.worded rfl hr1 tk (da_cons (de_var 9) (da_nil))))))))))) (dss_one (dp_ret (de_add rfl (de_var 6) (de_lst (da_cons (de_add rfl (de_var 1) (de_call e.worded rfl hr1 tk (da_cons (de_tup (da_cons (de_str) (da_cons (de_var 5) (da_nil)))) (da_nil)))) (da_nil))))))))
theorem ok_book_text {f : Addr} {fd : FuncData} (F : DfOk (gv K) "book_text" "book_text" s_book_text f fd) (T : Tx w (gv K) mg) (e : En P w (gv K) mg base n C) : FnO P w (gv K) mg base (n + 2) f fd ["chain"] (body 1 1 (tb_book_text C)) :=
  fno (n := n + 1) F sc_book_text fun cdv A outer s H E w hr hp tk => have hr1 := hr.mono (Nat.le_succ n); dss_one (dp_ret (de_join rfl (de_str) (de_call e.chain_rows rfl hr1 tk (da_cons (de_var 0) (da_cons (de_str) (da_nil))))))
theorem ok_Lines___init {f : Addr} {fd : FuncData} (F : DfOk (gv K) "__init__" "Lines.__init__" s_Lines___init f fd) (T : Tx w (gv K) mg) (e : En P w (gv K) mg base n C) : FnO P w (gv K) mg base (n + 2) f fd ["self", "text"] (body 7 2 (tb_Lines___init C)) :=
  fno (n := n + 1) F sc_Lines___init fun cdv A outer s H E w hr hp tk => have hr1 := hr.mono (Nat.le_succ n); dss_cons (dp_fld T.cl_Lines rfl (de_var 0) (de_lst (da_nil)) rfl) (dss_cons (dp_set (i := 2) sc_Lines___init.nd (de_split (de_var 1) (de_str))) (dss_cons (dp_for hp rfl (di_enum rfl T.z_enumerate (de_var 2)) (dg_tup rfl rfl (dgs_cons (dg_name (i := 3) sc_Lines___init.nd) (dgs_cons (dg_name (i := 4) sc_Lines___init.nd) (dgs_nil)))) (dss_cons (dp_setLc (i := 5) [("word", 6)] rfl sc_Lines___init.nd rfl rfl (sw_true rfl rfl rfl (by kernel_rfl)) (di_any rfl (de_split (de_var 4) (de_str))) (by kernel_rfl) (fun _ _ _ _ _ => dv_name (i := 6) sc_Lines___init.nd) (fun _ _ _ _ _ => dts_one (dt_cv (de_ne rfl hr (de_var 6) (de_str)))) (fun _ _ _ _ _ => de_var 6)) (dss_one (dp_if (dt_cv (de_gt (de_len rfl T.z_len (de_var 5)) (de_int))) (dss_one (dp_expr (de_append (de_fld T.cl_Lines rfl (de_var 0) rfl) (de_tup (da_cons (de_add rfl (de_var 3) (de_int)) (da_cons (de_var 5) (da_nil))))))) (dss_nil))))) (dss_cons (dp_fld T.cl_Lines rfl (de_var 0) (de_add rfl (de_len rfl T.z_len (de_var 2)) (de_int)) rfl) (dss_one (dp_fld T.cl_Lines rfl (de_var 0) (de_int) rfl)))))
theorem ok_Lines_here {f : Addr} {fd : FuncData} (F : DfOk (gv K) "here" "Lines.here" s_Lines_here f fd) (T : Tx w (gv K) mg) (e : En P w (gv K) mg base n C) : FnO P w (gv K) mg base (n + 2) f fd ["self"] (body 1 1 (tb_Lines_here C)) :=
  fno (n := n + 1) F sc_Lines_here fun cdv A outer s H E w hr hp tk => have hr1 := hr.mono (Nat.le_succ n); dss_cons (dp_if (dt_cv (de_eq rfl hr (de_fld T.cl_Lines rfl (de_var 0) rfl) (de_len rfl T.z_len (de_fld T.cl_Lines rfl (de_var 0) rfl)))) (dss_one (dp_never)) (dss_nil)) (dss_one (dp_ret (de_ix rfl (de_ix rfl (de_fld T.cl_Lines rfl (de_var 0) rfl) (de_fld T.cl_Lines rfl (de_var 0) rfl)) (de_int))))
theorem ok_Lines_need {f : Addr} {fd : FuncData} (F : DfOk (gv K) "need" "Lines.need" s_Lines_need f fd) (T : Tx w (gv K) mg) (e : En P w (gv K) mg base n C) : FnO P w (gv K) mg base (n + 2) f fd ["self", "truth"] (body 2 2 (tb_Lines_need C)) :=
  fno (n := n + 1) F sc_Lines_need fun cdv A outer s H E w hr hp tk => have hr1 := hr.mono (Nat.le_succ n); dss_one (dp_if (dt_not (dt_val (de_var 1))) (dss_one (dp_never)) (dss_nil))
theorem ok_Lines_read_numbers {f : Addr} {fd : FuncData} (F : DfOk (gv K) "read_numbers" "Lines.read_numbers" s_Lines_read_numbers f fd) (T : Tx w (gv K) mg) (e : En P w (gv K) mg base n C) : FnO P w (gv K) mg base (n + 2) f fd ["self", "words"] (body 3 2 (tb_Lines_read_numbers C)) :=
  fno (n := n + 1) F sc_Lines_read_numbers fun cdv A outer s H E w hr hp tk => have hr1 := hr.mono (Nat.le_succ n); dss_cons (dp_for hp rfl (di_any rfl (de_var 1)) (dg_name (i := 2) sc_Lines_read_numbers.nd) (dss_one (dp_expr (de_meth e.Lines_need T.cl_Lines rfl hr1 tk (de_var 0) (da_cons (de_call e.is_number rfl hr1 tk (da_cons (de_var 2) (da_nil))) (da_nil)))))) (dss_one (dp_ret (de_tuple rfl T.z_tuple (de_lc [("word", 2)] rfl sc_Lines_read_numbers.nd (di_any rfl (de_var 1)) (by kernel_rfl) (fun _ _ _ _ _ => dv_name (i := 2) sc_Lines_read_numbers.nd) (fun _ _ _ _ _ => dts_nil) (fun _ _ _ _ _ => de_toInt T.z_int (de_var 2))))))
theorem ok_head_of {f : Addr} {fd : FuncData} (F : DfOk (gv K) "head_of" "head_of" s_head_of f fd) (T : Tx w (gv K) mg) (e : En P w (gv K) mg base n C) : FnO P w (gv K) mg base (n + 2) f fd ["lines"] (body 3 1 (tb_head_of C)) :=
  fno (n := n + 1) F sc_head_of fun cdv A outer s H E w hr hp tk => have hr1 := hr.mono (Nat.le_succ n); dss_cons (dp_set (i := 1) sc_head_of.nd (de_meth0 e.Lines_here T.cl_Lines rfl hr1 tk (de_var 0))) (dss_cons (dp_expr (de_meth e.Lines_need T.cl_Lines rfl hr1 tk (de_var 0) (da_cons (de_and (de_eq rfl hr (de_ix rfl (de_var 1) (de_int)) (de_str)) (de_and (de_gt (de_len rfl T.z_len (de_var 1)) (de_int)) (de_one (de_call e.is_name rfl hr1 tk (da_cons (de_ix rfl (de_var 1) (de_int)) (da_nil)))))) (da_nil)))) (dss_cons (dp_set (i := 2) sc_head_of.nd (de_tup (da_cons (de_ix rfl (de_var 1) (de_int)) (da_cons (de_meth e.Lines_read_numbers T.cl_Lines rfl hr1 tk (de_var 0) (da_cons (de_slice rfl (de_var 1) (do_so (de_int)) (do_no)) (da_nil))) (da_nil))))) (dss_cons (dp_fld T.cl_Lines rfl (de_var 0) (de_add rfl (de_fld T.cl_Lines rfl (de_var 0) rfl) (de_int)) rfl) (dss_one (dp_ret (de_var 2))))))
theorem ok_what_of {f : Addr} {fd : FuncData} (F : DfOk (gv K) "what_of" "what_of" s_what_of f fd) (T : Tx w (gv K) mg) (e : En P w (gv K) mg base n C) : FnO P w (gv K) mg base (n + 2) f fd ["lines", "words"] (body 3 2 (tb_what_of C)) :=
  fno (n := n + 1) F sc_what_of fun cdv A outer s H E w hr hp tk => have hr1 := hr.mono (Nat.le_succ n); dss_cons (dp_expr (de_meth e.Lines_need T.cl_Lines rfl hr1 tk (de_var 0) (da_cons (de_and (de_gt (de_len rfl T.z_len (de_var 1)) (de_int)) (de_and (de_inG rfl T.t_SORTS (de_ix rfl (de_var 1) (de_int))) (de_one (de_eq rfl hr (de_len rfl T.z_len (de_var 1)) (de_add rfl (de_int) (de_ixG rfl T.t_SORTS (de_ix rfl (de_var 1) (de_int)))))))) (da_nil)))) (dss_cons (dp_set (i := 2) sc_what_of.nd (de_meth e.Lines_read_numbers T.cl_Lines rfl hr1 tk (de_var 0) (da_cons (de_slice rfl (de_var 1) (do_so (de_int)) (do_no)) (da_nil)))) (dss_cons (dp_expr (de_meth e.Lines_need T.cl_Lines rfl hr1 tk (de_var 0) (da_cons (de_or (de_ne rfl hr (de_ix rfl (de_var 1) (de_int)) (de_str)) (de_one (de_lt (de_ix rfl (de_var 2) (de_int)) (de_int)))) (da_nil)))) (dss_cons (dp_fld T.cl_Lines rfl (de_var 0) (de_add rfl (de_fld T.cl_Lines rfl (de_var 0) rfl) (de_int)) rfl) (dss_cons (dp_if (dt_cv (de_eq rfl hr (de_ix rfl (de_var 1) (de_int)) (de_str))) (dss_one (dp_ret (de_tup (da_cons (de_str) (da_cons (de_call e.chain_of rfl hr1 tk (da_cons (de_var 0) (da_nil))) (da_nil)))))) (dss_nil)) (dss_one (dp_ret (de_add rfl (de_tup (da_cons (de_ix rfl (de_var 1) (de_int)) (da_nil))) (de_var 2))))))))
theorem ok_step_of {f : Addr} {fd : FuncData} (F : DfOk (gv K) "step_of" "step_of" s_step_of f fd) (T : Tx w (gv K) mg) (e : En P w (gv K) mg base n C) : FnO P w (gv K) mg base (n + 2) f fd ["lines"] (body 4 1 (tb_step_of C)) :=
  fno (n := n + 1) F sc_step_of fun cdv A outer s H E w hr hp tk => have hr1 := hr.mono (Nat.le_succ n); dss_cons (dp_set (i := 1) sc_step_of.nd (de_meth0 e.Lines_here T.cl_Lines rfl hr1 tk (de_var 0))) (dss_cons (dp_expr (de_meth e.Lines_need T.cl_Lines rfl hr1 tk (de_var 0) (da_cons (de_in rfl hr (de_str) (de_var 1)) (da_nil)))) (dss_cons (dp_set (i := 2) sc_step_of.nd (de_index rfl (de_var 1) (de_str))) (dss_cons (dp_set (i := 3) sc_step_of.nd (de_meth e.Lines_read_numbers T.cl_Lines rfl hr1 tk (de_var 0) (da_cons (de_slice rfl (de_var 1) (do_no) (do_so (de_var 2))) (da_nil)))) (dss_cons (dp_expr (de_meth e.Lines_need T.cl_Lines rfl hr1 tk (de_var 0) (da_cons (de_and (de_gt (de_len rfl T.z_len (de_var 3)) (de_int)) (de_one (de_le (de_len rfl T.z_len (de_ix rfl (de_var 1) (de_int))) (de_gv T.c_MOST_FIGURES_booktext)))) (da_nil)))) (dss_one (dp_ret (de_tup (da_cons (de_ix rfl (de_var 3) (de_int)) (da_cons (de_slice rfl (de_var 3) (do_so (de_int)) (do_no)) (da_cons (de_call e.what_of rfl hr1 tk (da_cons (de_var 0) (da_cons (de_slice rfl (de_var 1) (do_so (de_add rfl (de_var 2) (de_int))) (do_no)) (da_nil)))) (da_nil)))))))))))
theorem ok_chain_of {f : Addr} {fd : FuncData} (F : DfOk (gv K) "chain_of" "chain_of" s_chain_of f fd) (T : Tx w (gv K) mg) (e : En P w (gv K) mg base n C) : FnO P w (gv K) mg base (n + 2) f fd ["lines"] (body 6 1 (tb_chain_of C)) :=
  fno (n := n + 1) F sc_chain_of fun cdv A outer s H E w hr hp tk => have hr1 := hr.mono (Nat.le_succ n); dss_cons (dp_asg (de_call e.head_of rfl hr1 tk (da_cons (de_var 0) (da_nil))) (dg_tup rfl rfl (dgs_cons (dg_name (i := 1) sc_chain_of.nd) (dgs_cons (dg_name (i := 2) sc_chain_of.nd) (dgs_nil))))) (dss_cons (dp_set (i := 3) sc_chain_of.nd (de_lst (da_nil))) (dss_cons (dp_while hp (dt_cv (de_ne rfl hr (de_ix rfl (de_meth0 e.Lines_here T.cl_Lines rfl hr1 tk (de_var 0)) (de_int)) (de_str))) (dss_one (dp_expr (de_append (de_var 3) (de_call e.step_of rfl hr1 tk (da_cons (de_var 0) (da_nil))))))) (dss_cons (dp_set (i := 4) sc_chain_of.nd (de_meth0 e.Lines_here T.cl_Lines rfl hr1 tk (de_var 0))) (dss_cons (dp_expr (de_meth e.Lines_need T.cl_Lines rfl hr1 tk (de_var 0) (da_cons (de_eq rfl hr (de_len rfl T.z_len (de_var 4)) (de_int)) (da_nil)))) (dss_cons (dp_set (i := 5) sc_chain_of.nd (de_meth e.Lines_read_numbers T.cl_Lines rfl hr1 tk (de_var 0) (da_cons (de_slice rfl (de_var 4) (do_so (de_int)) (do_no)) (da_nil)))) (dss_cons (dp_fld T.cl_Lines rfl (de_var 0) (de_add rfl (de_fld T.cl_Lines rfl (de_var 0) rfl) (de_int)) rfl) (dss_one (dp_ret (de_tup (da_cons (de_var 1) (da_cons (de_var 2) (da_cons (de_tuple rfl T.z_tuple (de_var 3)) (da_cons (de_ix rfl (de_var 5) (de_int)) (da_nil))))))))))))))
theorem ok_read_book {f : Addr} {fd : FuncData} (F : DfOk (gv K) "read_book" "read_book" s_read_book f fd) (T : Tx w (gv K) mg) (e : En P w (gv K) mg base n C) : FnO P w (gv K) mg base (n + 2) f fd ["text"] (body 3 1 (tb_read_book C)) :=
  fno (n := n + 1) F sc_read_book fun cdv A outer s H E w hr hp tk => have hr1 := hr.mono (Nat.le_succ n); dss_cons (dp_set (i := 1) sc_read_book.nd (de_make e.Lines___init rfl hr tk (da_cons (de_var 0) (da_nil)))) (dss_cons (dp_set (i := 2) sc_read_book.nd (de_call e.chain_of rfl hr1 tk (da_cons (de_var 1) (da_nil)))) (dss_cons (dp_expr (de_meth e.Lines_need T.cl_Lines rfl hr1 tk (de_var 1) (da_cons (de_eq rfl hr (de_fld T.cl_Lines rfl (de_var 1) rfl) (de_len rfl T.z_len (de_fld T.cl_Lines rfl (de_var 1) rfl))) (da_nil)))) (dss_one (dp_ret (de_var 2)))))
theorem ok_l_box {f : Addr} {fd : FuncData} (F : DfOk (gv K) "_law_box" "_law_box" s_l_box f fd) (T : Tx w (gv K) mg) (e : En P w (gv K) mg base n C) : FnO P w (gv K) mg base (n + 2) f fd ["_law_script", "_law_k"] (body 4 2 (tb_l_box C)) :=
  fno (n := n + 1) F sc_l_box fun cdv A outer s H E w hr hp tk => have hr1 := hr.mono (Nat.le_succ n); dss_cons (dp_set (i := 2) sc_l_box.nd (de_add rfl (de_mul (de_int) (de_var 1)) (de_int))) (dss_cons (dp_if (dt_cv (de_lt (de_var 1) (de_len rfl T.z_len (de_var 0)))) (dss_one (dp_set (i := 2) sc_l_box.nd (de_ix rfl (de_var 0) (de_var 1)))) (dss_one (dp_if (dt_cv (de_gt (de_len rfl T.z_len (de_var 0)) (de_int))) (dss_one (dp_set (i := 2) sc_l_box.nd (de_add rfl (de_var 2) (de_mul (de_mod (de_ix rfl (de_var 0) (de_mod (de_var 1) (de_len rfl T.z_len (de_var 0)))) (de_int)) (de_int))))) (dss_nil)))) (dss_cons (dp_set (i := 3) sc_l_box.nd (de_add rfl (de_mod (de_add rfl (de_mul (de_mod (de_var 2) (de_int)) (de_int)) (de_mul (de_int) (de_var 1))) (de_int)) (de_int))) (dss_one (dp_ret (de_lst (da_cons (de_mul (de_var 2) (de_toInt T.z_int (de_ge (de_var 2) (de_pow (de_int) (de_int))))) (da_cons (de_var 3) (da_nil))))))))
theorem ok_l_take {f : Addr} {fd : FuncData} (F : DfOk (gv K) "_law_take" "_law_take" s_l_take f fd) (T : Tx w (gv K) mg) (e : En P w (gv K) mg base n C) : FnO P w (gv K) mg base (n + 2) f fd ["_law_box_here", "_law_wide"] (body 5 2 (tb_l_take C)) :=
  fno (n := n + 1) F sc_l_take fun cdv A outer s H E w hr hp tk => have hr1 := hr.mono (Nat.le_succ n); dss_cons (dp_if (dt_cv (de_gt (de_ix rfl (de_var 0) (de_int)) (de_int))) (dss_cons (dp_set (i := 2) sc_l_take.nd (de_mod (de_ix rfl (de_var 0) (de_int)) (de_var 1))) (dss_cons (dp_stI (de_div (de_ix rfl (de_var 0) (de_int)) (de_var 1)) (de_var 0) (de_int)) (dss_one (dp_ret (de_var 2))))) (dss_nil)) (dss_cons (dp_set (i := 3) sc_l_take.nd (de_mod (de_mul (de_ix rfl (de_var 0) (de_int)) (de_int)) (de_int))) (dss_cons (dp_stI (de_add rfl (de_mod (de_add rfl (de_mul (de_var 3) (de_int)) (de_int)) (de_int)) (de_int)) (de_var 0) (de_int)) (dss_cons (dp_set (i := 4) sc_l_take.nd (de_div (de_add rfl (de_mul (de_var 3) (de_int)) (de_ix rfl (de_var 0) (de_int))) (de_int))) (dss_cons (dp_if (dt_cv (de_gt (de_var 1) (de_pow (de_int) (de_int)))) (dss_one (dp_set (i := 4) sc_l_take.nd (de_mul (de_var 4) (de_var 4)))) (dss_nil)) (dss_one (dp_ret (de_mod (de_var 4) (de_var 1))))))))
theorem ok_l_number {f : Addr} {fd : FuncData} (F : DfOk (gv K) "_law_number" "_law_number" s_l_number f fd) (T : Tx w (gv K) mg) (e : En P w (gv K) mg base n C) : FnO P w (gv K) mg base (n + 2) f fd ["_law_box_here"] (body 1 1 (tb_l_number C)) :=
  fno (n := n + 1) F sc_l_number fun cdv A outer s H E w hr hp tk => have hr1 := hr.mono (Nat.le_succ n); dss_cons (dp_if (dt_cv (de_eq rfl hr (de_call e.l_take rfl hr1 tk (da_cons (de_var 0) (da_cons (de_int) (da_nil)))) (de_int))) (dss_one (dp_ret (de_call e.l_take rfl hr1 tk (da_cons (de_var 0) (da_cons (de_pow (de_int) (de_int)) (da_nil)))))) (dss_nil)) (dss_one (dp_ret (de_call e.l_take rfl hr1 tk (da_cons (de_var 0) (da_cons (de_int) (da_nil))))))
theorem ok_l_names {f : Addr} {fd : FuncData} (F : DfOk (gv K) "_law_names" "_law_names" s_l_names f fd) (T : Tx w (gv K) mg) (e : En P w (gv K) mg base n C) : FnO P w (gv K) mg base (n + 2) f fd ["_law_box_here", "_law_total"] (body 15 2 (tb_l_names C)) :=
  fno (n := n + 1) F sc_l_names fun cdv A outer s H E w hr hp tk => have hr1 := hr.mono (Nat.le_succ n); dss_cons (dp_set (i := 2) sc_l_names.nd (de_str)) (dss_cons (dp_set (i := 3) sc_l_names.nd (de_add rfl (de_int) (de_call e.l_take rfl hr1 tk (da_cons (de_var 0) (da_cons (de_int) (da_nil)))))) (dss_cons (dp_set (i := 4) sc_l_names.nd (de_call e.l_take rfl hr1 tk (da_cons (de_var 0) (da_cons (de_var 3) (da_nil))))) (dss_cons (dp_setLc (i := 5) [("_law_k", 9)] rfl sc_l_names.nd rfl rfl (sw_true rfl rfl rfl (by kernel_rfl)) (di_rng1 T.z_range (de_var 3)) (by kernel_rfl) (fun _ _ _ _ _ => dv_name (i := 9) sc_l_names.nd) (fun _ _ _ _ _ => dts_nil) (fun _ _ _ _ _ => de_ix rfl (de_var 2) (de_call e.l_take rfl hr1 tkNo (da_cons (de_var 0) (da_cons (de_int) (da_nil)))))) (dss_cons (dp_set (i := 6) sc_l_names.nd (de_call e.l_take rfl hr1 tk (da_cons (de_var 0) (da_cons (de_int) (da_nil))))) (dss_cons (dp_set (i := 7) sc_l_names.nd (de_call e.l_take rfl hr1 tk (da_cons (de_var 0) (da_cons (de_int) (da_nil))))) (dss_cons (dp_set (i := 8) sc_l_names.nd (de_lst (da_nil))) (dss_cons (dp_for hp rfl (di_rng1 T.z_range (de_var 1)) (dg_name (i := 9) sc_l_names.nd) (dss_cons (dp_set (i := 10) sc_l_names.nd (de_ix rfl (de_var 2) (de_mod (de_add rfl (de_var 6) (de_mul (de_int) (de_var 9))) (de_int)))) (dss_cons (dp_set (i := 11) sc_l_names.nd (de_add rfl (de_add rfl (de_join rfl (de_str) (de_slice rfl (de_var 5) (do_no) (do_so (de_var 4)))) (de_var 10)) (de_join rfl (de_str) (de_slice rfl (de_var 5) (do_so (de_add rfl (de_var 4) (de_int))) (do_no))))) (dss_cons (dp_if (dt_w (dw_and (dt_cv (de_eq rfl hr (de_var 7) (de_int))) (dw_and1 (dt_cv (de_eq rfl hr (de_mod (de_var 9) (de_int)) (de_int)))))) (dss_one (dp_set (i := 11) sc_l_names.nd (de_add rfl (de_var 11) (de_str)))) (dss_nil)) (dss_cons (dp_if (dt_cv (de_eq rfl hr (de_var 7) (de_int))) (dss_one (dp_set (i := 11) sc_l_names.nd (de_add rfl (de_join rfl (de_str) (de_lc [("_law_j", 14)] rfl sc_l_names.nd (di_rng1 T.z_range (de_call e.l_take rfl hr1 tk (da_cons (de_var 0) (da_cons (de_int) (da_nil))))) (by kernel_rfl) (fun _ _ _ _ _ => dv_name (i := 14) sc_l_names.nd) (fun _ _ _ _ _ => dts_nil) (fun _ _ _ _ _ => de_ix rfl (de_var 2) (de_call e.l_take rfl hr1 tkNo (da_cons (de_var 0) (da_cons (de_int) (da_nil))))))) (de_var 10)))) (dss_nil)) (dss_cons (dp_if (dt_cv (de_in rfl hr (de_var 11) (de_tup (da_cons (de_str) (da_cons (de_str) (da_cons (de_str) (da_cons (de_str) (da_cons (de_str) (da_cons (de_str) (da_cons (de_str) (da_cons (de_str) (da_cons (de_str) (da_cons (de_str) (da_nil)))))))))))))) (dss_one (dp_set (i := 11) sc_l_names.nd (de_add rfl (de_str) (de_var 10)))) (dss_nil)) (dss_one (dp_expr (de_append (de_var 8) (de_var 11)))))))))) (dss_cons (dp_if (dt_cv (de_eq rfl hr (de_call e.l_take rfl hr1 tk (da_cons (de_var 0) (da_cons (de_int) (da_nil)))) (de_int))) (dss_cons (dp_set (i := 12) sc_l_names.nd (de_lst (da_cons (de_str) (da_cons (de_str) (da_cons (de_str) (da_cons (de_str) (da_cons (de_str) (da_cons (de_str) (da_cons (de_str) (da_cons (de_str) (da_cons (de_str) (da_cons (de_str) (da_cons (de_str) (da_cons (de_str) (da_cons (de_str) (da_nil)))))))))))))))) (dss_cons (dp_set (i := 13) sc_l_names.nd (de_ix rfl (de_var 12) (de_call e.l_take rfl hr1 tk (da_cons (de_var 0) (da_cons (de_int) (da_nil)))))) (dss_one (dp_if (dt_cv (de_nin rfl hr (de_var 13) (de_var 8))) (dss_one (dp_stI (de_var 13) (de_var 8) (de_call e.l_take rfl hr1 tk (da_cons (de_var 0) (da_cons (de_var 1) (da_nil)))))) (dss_nil))))) (dss_nil)) (dss_one (dp_ret (de_var 8)))))))))))
theorem ok_l_alike {f : Addr} {fd : FuncData} (F : DfOk (gv K) "_law_alike" "_law_alike" s_l_alike f fd) (T : Tx w (gv K) mg) (e : En P w (gv K) mg base n C) : FnO P w (gv K) mg base (n + 2) f fd ["_law_found", "_law_due"] (body 3 2 (tb_l_alike C)) :=
  fno (n := n + 1) F sc_l_alike fun cdv A outer s H E w hr hp tk => have hr1 := hr.mono (Nat.le_succ n); dss_cons (dp_if (dt_val (de_isi (T := 2) rfl T.z_isinstance T.z_tuple (by decide +kernel) (by decide +kernel) (de_var 1))) (dss_cons (dp_if (dt_w (dw_or (dt_not (dt_val (de_isi (T := 2) rfl T.z_isinstance T.z_tuple (by decide +kernel) (by decide +kernel) (de_var 0)))) (dw_or1 (dt_cv (de_ne rfl hr (de_len rfl T.z_len (de_var 0)) (de_len rfl T.z_len (de_var 1))))))) (dss_one (dp_ret (de_bl))) (dss_nil)) (dss_one (dp_ret (de_all rfl rfl T.z_all (de_lc [("_law_k", 2)] rfl sc_l_alike.nd (di_rng1 T.z_range (de_len rfl T.z_len (de_var 1))) (by kernel_rfl) (fun _ _ _ _ _ => dv_name (i := 2) sc_l_alike.nd) (fun _ _ _ _ _ => dts_nil) (fun _ _ _ _ _ => de_call e.l_alike rfl hr1 tkNo (da_cons (de_ix rfl (de_var 0) (de_var 2)) (da_cons (de_ix rfl (de_var 1) (de_var 2)) (da_nil))))))))) (dss_nil)) (dss_cons (dp_if (dt_val (de_isi (T := 0) rfl T.z_isinstance T.z_str (by decide +kernel) (by decide +kernel) (de_var 1))) (dss_one (dp_ret (de_and (de_isi (T := 0) rfl T.z_isinstance T.z_str (by decide +kernel) (by decide +kernel) (de_var 0)) (de_one (de_eq rfl hr (de_var 0) (de_var 1)))))) (dss_nil)) (dss_one (dp_ret (de_and (de_isi (T := 1) rfl T.z_isinstance T.z_int (by decide +kernel) (by decide +kernel) (de_var 0)) (de_and (de_not (de_isi (T := 4) rfl T.z_isinstance T.z_bool (by decide +kernel) (by decide +kernel) (de_var 0))) (de_one (de_eq rfl hr (de_var 0) (de_var 1))))))))
theorem ok_l_what {f : Addr} {fd : FuncData} (F : DfOk (gv K) "_law_what" "_law_what" s_l_what f fd) (T : Tx w (gv K) mg) (e : En P w (gv K) mg base n C) : FnO P w (gv K) mg base (n + 2) f fd ["_law_box_here", "_law_names_here", "_law_spare", "_law_deep"] (body 5 4 (tb_l_what C)) :=
  fno (n := n + 1) F sc_l_what fun cdv A outer s H E w hr hp tk => have hr1 := hr.mono (Nat.le_succ n); dss_cons (dp_set (i := 4) sc_l_what.nd (de_call e.l_take rfl hr1 tk (da_cons (de_var 0) (da_cons (de_int) (da_nil))))) (dss_cons (dp_if (dt_cv (de_lt (de_var 4) (de_int))) (dss_one (dp_ret (de_tup (da_cons (de_str) (da_cons (de_call e.l_number rfl hr1 tk (da_cons (de_var 0) (da_nil))) (da_cons (de_call e.l_number rfl hr1 tk (da_cons (de_var 0) (da_nil))) (da_nil))))))) (dss_nil)) (dss_cons (dp_if (dt_cv (de_eq rfl hr (de_var 4) (de_int))) (dss_one (dp_ret (de_tup (da_cons (de_str) (da_cons (de_call e.l_number rfl hr1 tk (da_cons (de_var 0) (da_nil))) (da_cons (de_call e.l_number rfl hr1 tk (da_cons (de_var 0) (da_nil))) (da_nil))))))) (dss_nil)) (dss_cons (dp_if (dt_w (dw_or (dt_cv (de_eq rfl hr (de_var 4) (de_int))) (dw_or1 (dt_cv (de_eq rfl hr (de_var 3) (de_int)))))) (dss_one (dp_ret (de_tup (da_cons (de_str) (da_cons (de_call e.l_take rfl hr1 tk (da_cons (de_var 0) (da_cons (de_int) (da_nil)))) (da_nil)))))) (dss_nil)) (dss_one (dp_ret (de_tup (da_cons (de_str) (da_cons (de_call e.l_chain rfl hr1 tk (da_cons (de_var 0) (da_cons (de_var 1) (da_cons (de_var 2) (da_cons (de_sub (de_var 3) (de_int)) (da_nil)))))) (da_nil)))))))))
theorem ok_l_chain {f : Addr} {fd : FuncData} (F : DfOk (gv K) "_law_chain" "_law_chain" s_l_chain f fd) (T : Tx w (gv K) mg) (e : En P w (gv K) mg base n C) : FnO P w (gv K) mg base (n + 2) f fd ["_law_box_here", "_law_names_here", "_law_spare", "_law_deep"] (body 11 4 (tb_l_chain C)) :=
  fno (n := n + 1) F sc_l_chain fun cdv A outer s H E w hr hp tk => have hr1 := hr.mono (Nat.le_succ n); dss_cons (dp_set (i := 4) sc_l_chain.nd (de_tuple rfl T.z_tuple (de_lc [("_law_k", 7)] rfl sc_l_chain.nd (di_rng1 T.z_range (de_call e.l_take rfl hr1 tk (da_cons (de_var 0) (da_cons (de_int) (da_nil))))) (by kernel_rfl) (fun _ _ _ _ _ => dv_name (i := 7) sc_l_chain.nd) (fun _ _ _ _ _ => dts_nil) (fun _ _ _ _ _ => de_call e.l_number rfl hr1 tkNo (da_cons (de_var 0) (da_nil)))))) (dss_cons (dp_set (i := 5) sc_l_chain.nd (de_ix rfl (de_var 1) (de_call e.l_take rfl hr1 tk (da_cons (de_var 0) (da_cons (de_len rfl T.z_len (de_var 1)) (da_nil)))))) (dss_cons (dp_set (i := 6) sc_l_chain.nd (de_lst (da_nil))) (dss_cons (dp_for hp rfl (di_rng1 T.z_range (de_call e.l_take rfl hr1 tk (da_cons (de_var 0) (da_cons (de_int) (da_nil))))) (dg_name (i := 7) sc_l_chain.nd) (dss_one (dp_if (dt_cv (de_gt (de_ix rfl (de_var 2) (de_int)) (de_int))) (dss_cons (dp_stI (de_sub (de_ix rfl (de_var 2) (de_int)) (de_int)) (de_var 2) (de_int)) (dss_cons (dp_set (i := 8) sc_l_chain.nd (de_call e.l_take rfl hr1 tk (da_cons (de_var 0) (da_cons (de_ix rfl (de_lst (da_cons (de_int) (da_cons (de_int) (da_nil)))) (de_toInt T.z_int (de_eq rfl hr (de_call e.l_take rfl hr1 tk (da_cons (de_var 0) (da_cons (de_int) (da_nil)))) (de_int)))) (da_nil))))) (dss_cons (dp_set (i := 9) sc_l_chain.nd (de_tuple rfl T.z_tuple (de_lc [("_law_j", 10)] rfl sc_l_chain.nd (di_rng1 T.z_range (de_call e.l_take rfl hr1 tk (da_cons (de_var 0) (da_cons (de_int) (da_nil))))) (by kernel_rfl) (fun _ _ _ _ _ => dv_name (i := 10) sc_l_chain.nd) (fun _ _ _ _ _ => dts_nil) (fun _ _ _ _ _ => de_call e.l_number rfl hr1 tkNo (da_cons (de_var 0) (da_nil)))))) (dss_one (dp_expr (de_append (de_var 6) (de_tup (da_cons (de_var 8) (da_cons (de_var 9) (da_cons (de_call e.l_what rfl hr1 tk (da_cons (de_var 0) (da_cons (de_var 1) (da_cons (de_var 2) (da_cons (de_var 3) (da_nil)))))) (da_nil))))))))))) (dss_nil)))) (dss_one (dp_ret (de_tup (da_cons (de_var 5) (da_cons (de_var 4) (da_cons (de_tuple rfl T.z_tuple (de_var 6)) (da_cons (de_call e.l_number rfl hr1 tk (da_cons (de_var 0) (da_nil))) (da_nil)))))))))))
theorem ok_l_worded {f : Addr} {fd : FuncData} (F : DfOk (gv K) "_law_worded" "_law_worded" s_l_worded f fd) (T : Tx w (gv K) mg) (e : En P w (gv K) mg base n C) : FnO P w (gv K) mg base (n + 2) f fd ["_law_things"] (body 2 1 (tb_l_worded C)) :=
  fno (n := n + 1) F sc_l_worded fun cdv A outer s H E w hr hp tk => have hr1 := hr.mono (Nat.le_succ n); dss_one (dp_ret (de_join rfl (de_str) (de_lc [("_law_thing", 1)] rfl sc_l_worded.nd (di_any rfl (de_var 0)) (by kernel_rfl) (fun _ _ _ _ _ => dv_name (i := 1) sc_l_worded.nd) (fun _ _ _ _ _ => dts_nil) (fun _ _ _ _ _ => de_toStr T.z_str (de_var 1)))))
theorem ok_l_chain_rows {f : Addr} {fd : FuncData} (F : DfOk (gv K) "_law_chain_rows" "_law_chain_rows" s_l_chain_rows f fd) (T : Tx w (gv K) mg) (e : En P w (gv K) mg base n C) : FnO P w (gv K) mg base (n + 2) f fd ["_law_chain_here", "_law_ahead"] (body 6 2 (tb_l_chain_rows C)) :=
  fno (n := n + 1) F sc_l_chain_rows fun cdv A outer s H E w hr hp tk => have hr1 := hr.mono (Nat.le_succ n); dss_cons (dp_set (i := 2) sc_l_chain_rows.nd (de_lst (da_cons (de_add rfl (de_var 1) (de_call e.l_worded rfl hr1 tk (da_cons (de_add rfl (de_tup (da_cons (de_str) (da_cons (de_ix rfl (de_var 0) (de_int)) (da_nil)))) (de_ix rfl (de_var 0) (de_int))) (da_nil)))) (da_nil)))) (dss_cons (dp_for hp rfl (di_any rfl (de_ix rfl (de_var 0) (de_int))) (dg_tup rfl rfl (dgs_cons (dg_name (i := 3) sc_l_chain_rows.nd) (dgs_cons (dg_name (i := 4) sc_l_chain_rows.nd) (dgs_cons (dg_name (i := 5) sc_l_chain_rows.nd) (dgs_nil))))) (dss_one (dp_if (dt_cv (de_eq rfl hr (de_ix rfl (de_var 5) (de_int)) (de_str))) (dss_cons (dp_expr (de_append (de_var 2) (de_add rfl (de_add rfl (de_var 1) (de_str)) (de_call e.l_worded rfl hr1 tk (da_cons (de_add rfl (de_add rfl (de_tup (da_cons (de_var 3) (da_nil))) (de_var 4)) (de_tup (da_cons (de_str) (da_cons (de_str) (da_nil))))) (da_nil)))))) (dss_one (dp_set (i := 2) sc_l_chain_rows.nd (de_add rfl (de_var 2) (de_call e.l_chain_rows rfl hr1 tk (da_cons (de_ix rfl (de_var 5) (de_int)) (da_cons (de_add rfl (de_var 1) (de_str)) (da_nil)))))))) (dss_one (dp_expr (de_append (de_var 2) (de_add rfl (de_add rfl (de_var 1) (de_str)) (de_call e.l_worded rfl hr1 tk (da_cons (de_add rfl (de_add rfl (de_add rfl (de_tup (da_cons (de_var 3) (da_nil))) (de_var 4)) (de_tup (da_cons (de_str) (da_nil)))) (de_var 5)) (da_nil)))))))))) (dss_one (dp_ret (de_add rfl (de_var 2) (de_lst (da_cons (de_add rfl (de_var 1) (de_call e.l_worded rfl hr1 tk (da_cons (de_tup (da_cons (de_str) (da_cons (de_ix rfl (de_var 0) (de_int)) (da_nil)))) (da_nil)))) (da_nil)))))))
theorem ok_l_loose {f : Addr} {fd : FuncData} (F : DfOk (gv K) "_law_loose" "_law_loose" s_l_loose f fd) (T : Tx w (gv K) mg) (e : En P w (gv K) mg base n C) : FnO P w (gv K) mg base (n + 2) f fd ["_law_box_here", "_law_rows"] (body 8 2 (tb_l_loose C)) :=
  fno (n := n + 1) F sc_l_loose fun cdv A outer s H E w hr hp tk => have hr1 := hr.mono (Nat.le_succ n); dss_cons (dp_set (i := 2) sc_l_loose.nd (de_lst (da_nil))) (dss_cons (dp_for hp rfl (di_any rfl (de_var 1)) (dg_name (i := 3) sc_l_loose.nd) (dss_cons (dp_for hp rfl (di_rng1 T.z_range (de_div (de_call e.l_take rfl hr1 tk (da_cons (de_var 0) (da_cons (de_int) (da_nil)))) (de_int))) (dg_name (i := 4) sc_l_loose.nd) (dss_one (dp_expr (de_append (de_var 2) (de_mul (de_str) (de_call e.l_take rfl hr1 tk (da_cons (de_var 0) (da_cons (de_int) (da_nil))))))))) (dss_cons (dp_set (i := 5) sc_l_loose.nd (de_split (de_strip (de_var 3) (de_str)) (de_str))) (dss_cons (dp_set (i := 6) sc_l_loose.nd (de_add rfl (de_mul (de_str) (de_call e.l_take rfl hr1 tk (da_cons (de_var 0) (da_cons (de_int) (da_nil))))) (de_ix rfl (de_var 5) (de_int)))) (dss_cons (dp_for hp rfl (di_any rfl (de_slice rfl (de_var 5) (do_so (de_int)) (do_no))) (dg_name (i := 7) sc_l_loose.nd) (dss_one (dp_set (i := 6) sc_l_loose.nd (de_add rfl (de_add rfl (de_var 6) (de_mul (de_str) (de_add rfl (de_int) (de_call e.l_take rfl hr1 tk (da_cons (de_var 0) (da_cons (de_int) (da_nil))))))) (de_var 7))))) (dss_one (dp_expr (de_append (de_var 2) (de_add rfl (de_var 6) (de_mul (de_str) (de_call e.l_take rfl hr1 tk (da_cons (de_var 0) (da_cons (de_int) (da_nil)))))))))))))) (dss_one (dp_ret (de_join rfl (de_str) (de_add rfl (de_var 2) (de_mul (de_lst (da_cons (de_str) (da_nil))) (de_call e.l_take rfl hr1 tk (da_cons (de_var 0) (da_cons (de_int) (da_nil))))))))))
theorem ok_law {f : Addr} {fd : FuncData} (F : DfOk (gv K) "law" "law" s_law f fd) (T : Tx w (gv K) mg) (e : En P w (gv K) mg base n C) : FnO P w (gv K) mg base (n + 2) f fd ["_law_script"] (body 7 1 (tb_law C)) :=
  fno (n := n + 1) F sc_law fun cdv A outer s H E w hr hp tk => have hr1 := hr.mono (Nat.le_succ n); dss_cons (dp_set (i := 1) sc_law.nd (de_call e.l_box rfl hr1 tk (da_cons (de_var 0) (da_cons (de_int) (da_nil))))) (dss_cons (dp_set (i := 2) sc_law.nd (de_add rfl (de_call e.l_names rfl hr1 tk (da_cons (de_var 1) (da_cons (de_int) (da_nil)))) (de_lst (da_cons (de_str) (da_cons (de_str) (da_cons (de_str) (da_cons (de_str) (da_cons (de_str) (da_cons (de_str) (da_nil)))))))))) (dss_cons (dp_set (i := 3) sc_law.nd (de_call e.l_chain rfl hr1 tk (da_cons (de_var 1) (da_cons (de_var 2) (da_cons (de_lst (da_cons (de_call e.l_take rfl hr1 tk (da_cons (de_var 1) (da_cons (de_int) (da_nil)))) (da_nil))) (da_cons (de_int) (da_nil))))))) (dss_cons (dp_set (i := 4) sc_law.nd (de_call e.l_chain_rows rfl hr1 tk (da_cons (de_var 3) (da_cons (de_str) (da_nil))))) (dss_cons (dp_set (i := 5) sc_law.nd (de_call e.book_text rfl hr1 tk (da_cons (de_var 3) (da_nil)))) (dss_cons (dp_if (dt_w (dw_or (dt_not (dt_val (de_isi (T := 0) rfl T.z_isinstance T.z_str (by decide +kernel) (by decide +kernel) (de_var 5)))) (dw_or1 (dt_cv (de_ne rfl hr (de_var 5) (de_join rfl (de_str) (de_var 4))))))) (dss_one (dp_ret (de_bl))) (dss_nil)) (dss_cons (dp_for hp rfl (di_rng2 T.z_range (de_int) (de_add rfl (de_int) (de_len rfl T.z_len (de_slice rfl (de_var 0) (do_so (de_int)) (do_so (de_int)))))) (dg_name (i := 6) sc_law.nd) (dss_one (dp_if (dt_not (dt_val (de_call e.l_alike rfl hr1 tk (da_cons (de_call e.read_book rfl hr1 tk (da_cons (de_call e.l_loose rfl hr1 tk (da_cons (de_call e.l_box rfl hr1 tk (da_cons (de_var 0) (da_cons (de_var 6) (da_nil)))) (da_cons (de_var 4) (da_nil)))) (da_nil))) (da_cons (de_var 3) (da_nil)))))) (dss_one (dp_ret (de_bl))) (dss_nil)))) (dss_one (dp_ret (de_and (de_call e.l_alike rfl hr1 tk (da_cons (de_call e.read_book rfl hr1 tk (da_cons (de_var 5) (da_nil))) (da_cons (de_var 3) (da_nil)))) (de_one (de_eq rfl hr (de_call e.book_text rfl hr1 tk (da_cons (de_var 3) (da_nil))) (de_var 5))))))))))))
end
/-! ### the head -/
def fa : List He.Fa := [.free "all", .free "bool", .free "enumerate", .free "int", .free "isinstance", .free "len", .free "range", .free "str", .free "tuple", .glo "SORTS", .glo "made_of", .glo "is_name", .glo "is_number", .glo "worded", .glo "chain_rows", .glo "book_text", .glo "head_of", .glo "what_of", .glo "step_of", .glo "chain_of", .glo "read_book", .glo "_law_box", .glo "_law_take", .glo "_law_number", .glo "_law_names", .glo "_law_alike", .glo "_law_what", .glo "_law_chain", .glo "_law_worded", .glo "_law_chain_rows", .glo "_law_loose", .glo "law", .cls "Lines", .glo "Lines", .noat "Lines" "rows", .noat "Lines" "end", .noat "Lines" "at", .mkr "Lines", .meth "Lines" "here", .meth "Lines" "need", .meth "Lines" "read_numbers"]
def d_made_of : He.DefD := ⟨("made_of", none), "made_of", "made_of", defArgs s_made_of, defBody s_made_of, defScope s_made_of, [], []⟩
def d_is_name : He.DefD := ⟨("is_name", none), "is_name", "is_name", defArgs s_is_name, defBody s_is_name, defScope s_is_name, [], []⟩
def d_is_number : He.DefD := ⟨("is_number", none), "is_number", "is_number", defArgs s_is_number, defBody s_is_number, defScope s_is_number, [], []⟩
def d_worded : He.DefD := ⟨("worded", none), "worded", "worded", defArgs s_worded, defBody s_worded, defScope s_worded, [], []⟩
def d_chain_rows : He.DefD := ⟨("chain_rows", none), "chain_rows", "chain_rows", defArgs s_chain_rows, defBody s_chain_rows, defScope s_chain_rows, [], []⟩
def d_book_text : He.DefD := ⟨("book_text", none), "book_text", "book_text", defArgs s_book_text, defBody s_book_text, defScope s_book_text, [], []⟩
def d_Lines___init : He.DefD := ⟨("Lines", some "__init__"), "__init__", "Lines.__init__", defArgs s_Lines___init, defBody s_Lines___init, defScope s_Lines___init, [], []⟩
def d_Lines_here : He.DefD := ⟨("Lines", some "here"), "here", "Lines.here", defArgs s_Lines_here, defBody s_Lines_here, defScope s_Lines_here, [], []⟩
def d_Lines_need : He.DefD := ⟨("Lines", some "need"), "need", "Lines.need", defArgs s_Lines_need, defBody s_Lines_need, defScope s_Lines_need, [], []⟩
def d_Lines_read_numbers : He.DefD := ⟨("Lines", some "read_numbers"), "read_numbers", "Lines.read_numbers", defArgs s_Lines_read_numbers, defBody s_Lines_read_numbers, defScope s_Lines_read_numbers, [], []⟩
def d_head_of : He.DefD := ⟨("head_of", none), "head_of", "head_of", defArgs s_head_of, defBody s_head_of, defScope s_head_of, [], []⟩
def d_what_of : He.DefD := ⟨("what_of", none), "what_of", "what_of", defArgs s_what_of, defBody s_what_of, defScope s_what_of, [], []⟩
def d_step_of : He.DefD := ⟨("step_of", none), "step_of", "step_of", defArgs s_step_of, defBody s_step_of, defScope s_step_of, [], []⟩
def d_chain_of : He.DefD := ⟨("chain_of", none), "chain_of", "chain_of", defArgs s_chain_of, defBody s_chain_of, defScope s_chain_of, [], []⟩
def d_read_book : He.DefD := ⟨("read_book", none), "read_book", "read_book", defArgs s_read_book, defBody s_read_book, defScope s_read_book, [], []⟩
def d_l_box : He.DefD := ⟨("_law_box", none), "_law_box", "_law_box", defArgs s_l_box, defBody s_l_box, defScope s_l_box, [], []⟩
def d_l_take : He.DefD := ⟨("_law_take", none), "_law_take", "_law_take", defArgs s_l_take, defBody s_l_take, defScope s_l_take, [], []⟩
def d_l_number : He.DefD := ⟨("_law_number", none), "_law_number", "_law_number", defArgs s_l_number, defBody s_l_number, defScope s_l_number, [], []⟩
def d_l_names : He.DefD := ⟨("_law_names", none), "_law_names", "_law_names", defArgs s_l_names, defBody s_l_names, defScope s_l_names, [], []⟩
def d_l_alike : He.DefD := ⟨("_law_alike", none), "_law_alike", "_law_alike", defArgs s_l_alike, defBody s_l_alike, defScope s_l_alike, [], []⟩
def d_l_what : He.DefD := ⟨("_law_what", none), "_law_what", "_law_what", defArgs s_l_what, defBody s_l_what, defScope s_l_what, [], []⟩
def d_l_chain : He.DefD := ⟨("_law_chain", none), "_law_chain", "_law_chain", defArgs s_l_chain, defBody s_l_chain, defScope s_l_chain, [], []⟩
def d_l_worded : He.DefD := ⟨("_law_worded", none), "_law_worded", "_law_worded", defArgs s_l_worded, defBody s_l_worded, defScope s_l_worded, [], []⟩
def d_l_chain_rows : He.DefD := ⟨("_law_chain_rows", none), "_law_chain_rows", "_law_chain_rows", defArgs s_l_chain_rows, defBody s_l_chain_rows, defScope s_l_chain_rows, [], []⟩
def d_l_loose : He.DefD := ⟨("_law_loose", none), "_law_loose", "_law_loose", defArgs s_l_loose, defBody s_l_loose, defScope s_l_loose, [], []⟩
def d_law : He.DefD := ⟨("law", none), "law", "law", defArgs s_law, defBody s_law, defScope s_law, [], []⟩
def fn : List He.DefD := [d_made_of, d_is_name, d_is_number, d_worded, d_chain_rows, d_book_text, d_Lines___init, d_Lines_here, d_Lines_need, d_Lines_read_numbers, d_head_of, d_what_of, d_step_of, d_chain_of, d_read_book, d_l_box, d_l_take, d_l_number, d_l_names, d_l_alike, d_l_what, d_l_chain, d_l_worded, d_l_chain_rows, d_l_loose, d_law]
def fc : Fc := ⟨fa, fn, [("FIGURES", c_FIGURES), ("KEPT", c_KEPT), ("LETTERS", c_LETTERS), ("LONGEST", c_LONGEST), ("MOST_FIGURES_booktext", c_MOST_FIGURES_booktext), ("MOST_FIGURES_words", c_MOST_FIGURES_words)], [("SORTS", t_SORTS)]⟩
abbrev R : PySem.W.OpenRow := PySem.W.OpenLaw.row PySem.Challenge.rw_againbook_k60_books_written_and_read
abbrev hk : PySem.W.Hook := fc.hook 6
def ob (s : PySem.W.SharedT) : AlM := fc.obsG 6 (HandSHeadRun.getT s)
theorem ob_eq (s : PySem.W.SharedT) : ob s = hk.obs s.abs := Fc.obs_eq (HandSHeadRun.getT_eq s)
def lo0 : List Str := ["__name__", "BookError", "NoText", "LETTERS", "FIGURES", "LONGEST", "MOST_FIGURES_words", "KEPT", "made_of", "is_name", "is_number", "MOST_FIGURES_booktext", "SORTS", "worded", "chain_rows", "book_text", "Lines", "head_of", "what_of", "step_of", "chain_of", "read_book", "_law_box", "_law_take", "_law_number", "_law_names", "_law_alike", "_law_what", "_law_chain", "_law_worded"]
def lo1 : List Str := ["_law_chain_rows", "_law_loose"]
def loose : List Str := lo0 ++ lo1
theorem run_false (w : World) : HandSHeadRun.RunEq R (PySem.W.view R.prog [35]) hk ob 6000 loose (w.withFollow "special-get-raises" false) := by
  intro os
  kernel_rfl
theorem run_true (w : World) : HandSHeadRun.RunEq R (PySem.W.view R.prog [35]) hk ob 6000 loose (w.withFollow "special-get-raises" true) := by
  intro os
  kernel_rfl
theorem run (w : World) : HandSHeadRun.RunEq R (PySem.W.view R.prog [35]) hk ob 6000 loose w :=
  PySem.W.byRow2 (P := fun w => HandSHeadRun.RunEq R (PySem.W.view R.prog [35]) hk ob 6000 loose w) "special-get-raises" run_false run_true w
section
variable {w : World} {K : PySem.W.Frag} {h : Heap} {mg : Str → Option Value}
theorem tx (c : fc.says w K) (X : K.In h) (N : h.Ns mainGlobals mg) : Tx w (gv K) mg where
  z_all := He.free_ok X N (c.fact 0 (f := .free "all"))
  z_bool := He.free_ok X N (c.fact 1 (f := .free "bool"))
  z_enumerate := He.free_ok X N (c.fact 2 (f := .free "enumerate"))
  z_int := He.free_ok X N (c.fact 3 (f := .free "int"))
  z_isinstance := He.free_ok X N (c.fact 4 (f := .free "isinstance"))
  z_len := He.free_ok X N (c.fact 5 (f := .free "len"))
  z_range := He.free_ok X N (c.fact 6 (f := .free "range"))
  z_str := He.free_ok X N (c.fact 7 (f := .free "str"))
  z_tuple := He.free_ok X N (c.fact 8 (f := .free "tuple"))
  c_FIGURES := valB_ok (G := gv K) X N (c.val_ 0 (q := ("FIGURES", c_FIGURES)))
  c_KEPT := valB_ok (G := gv K) X N (c.val_ 1 (q := ("KEPT", c_KEPT)))
  c_LETTERS := valB_ok (G := gv K) X N (c.val_ 2 (q := ("LETTERS", c_LETTERS)))
  c_LONGEST := valB_ok (G := gv K) X N (c.val_ 3 (q := ("LONGEST", c_LONGEST)))
  c_MOST_FIGURES_booktext := valB_ok (G := gv K) X N (c.val_ 4 (q := ("MOST_FIGURES_booktext", c_MOST_FIGURES_booktext)))
  c_MOST_FIGURES_words := valB_ok (G := gv K) X N (c.val_ 5 (q := ("MOST_FIGURES_words", c_MOST_FIGURES_words)))
  t_SORTS := tab_ok X N (c.tab 0 (q := ("SORTS", t_SORTS))) (c.fact 9 (f := .glo "SORTS"))
  cl_Lines := by
    refine ⟨He.cls_ok (c.fact 32 (f := .cls "Lines")), (by decide +kernel : (clsFields 2).Nodup), fun f hf => ?_, (by decide : (clsFields 2).length < 1000)⟩
    simp only [gv, clsFields, List.mem_cons, List.not_mem_nil, or_false] at hf
    rcases hf with rfl | rfl | rfl
    · exact He.noat_ok (c.fact 34 (f := .noat "Lines" "rows"))
    · exact He.noat_ok (c.fact 35 (f := .noat "Lines" "end"))
    · exact He.noat_ok (c.fact 36 (f := .noat "Lines" "at"))
structure Nm (mg : Str → Option Value) (K : PySem.W.Frag) : Prop where
  made_of : NFn mg (gv K) "made_of" "made_of" s_made_of ["text", "signs"]
  is_name : NFn mg (gv K) "is_name" "is_name" s_is_name ["text"]
  is_number : NFn mg (gv K) "is_number" "is_number" s_is_number ["text"]
  worded : NFn mg (gv K) "worded" "worded" s_worded ["things"]
  chain_rows : NFn mg (gv K) "chain_rows" "chain_rows" s_chain_rows ["chain", "blanks"]
  book_text : NFn mg (gv K) "book_text" "book_text" s_book_text ["chain"]
  Lines___init : NMk mg (gv K) 2 "Lines" "Lines.__init__" s_Lines___init ["self", "text"]
  Lines_here : NMe (gv K) 2 "here" "Lines.here" s_Lines_here ["self"]
  Lines_need : NMe (gv K) 2 "need" "Lines.need" s_Lines_need ["self", "truth"]
  Lines_read_numbers : NMe (gv K) 2 "read_numbers" "Lines.read_numbers" s_Lines_read_numbers ["self", "words"]
  head_of : NFn mg (gv K) "head_of" "head_of" s_head_of ["lines"]
  what_of : NFn mg (gv K) "what_of" "what_of" s_what_of ["lines", "words"]
  step_of : NFn mg (gv K) "step_of" "step_of" s_step_of ["lines"]
  chain_of : NFn mg (gv K) "chain_of" "chain_of" s_chain_of ["lines"]
  read_book : NFn mg (gv K) "read_book" "read_book" s_read_book ["text"]
  l_box : NFn mg (gv K) "_law_box" "_law_box" s_l_box ["_law_script", "_law_k"]
  l_take : NFn mg (gv K) "_law_take" "_law_take" s_l_take ["_law_box_here", "_law_wide"]
  l_number : NFn mg (gv K) "_law_number" "_law_number" s_l_number ["_law_box_here"]
  l_names : NFn mg (gv K) "_law_names" "_law_names" s_l_names ["_law_box_here", "_law_total"]
  l_alike : NFn mg (gv K) "_law_alike" "_law_alike" s_l_alike ["_law_found", "_law_due"]
  l_what : NFn mg (gv K) "_law_what" "_law_what" s_l_what ["_law_box_here", "_law_names_here", "_law_spare", "_law_deep"]
  l_chain : NFn mg (gv K) "_law_chain" "_law_chain" s_l_chain ["_law_box_here", "_law_names_here", "_law_spare", "_law_deep"]
  l_worded : NFn mg (gv K) "_law_worded" "_law_worded" s_l_worded ["_law_things"]
  l_chain_rows : NFn mg (gv K) "_law_chain_rows" "_law_chain_rows" s_l_chain_rows ["_law_chain_here", "_law_ahead"]
  l_loose : NFn mg (gv K) "_law_loose" "_law_loose" s_l_loose ["_law_box_here", "_law_rows"]
  law : NFn mg (gv K) "law" "law" s_law ["_law_script"]
theorem nm (c : fc.says w K) (X : K.In h) (N : h.Ns mainGlobals mg) : Nm mg K where
  made_of := by
    obtain ⟨fd, F⟩ : ∃ fd, DfOk (gv K) "made_of" "made_of" s_made_of (He.ga K "made_of") fd := c.d.def_ 0 (d := d_made_of)
    exact ⟨_, fd, He.glo_ok X N (c.fact 10 (f := .glo "made_of")), F.kp, F.bindsN fun _ _ _ _ _ _ us hl => match us, hl with | [_, _], _ => rfl, F⟩
  is_name := by
    obtain ⟨fd, F⟩ : ∃ fd, DfOk (gv K) "is_name" "is_name" s_is_name (He.ga K "is_name") fd := c.d.def_ 1 (d := d_is_name)
    exact ⟨_, fd, He.glo_ok X N (c.fact 11 (f := .glo "is_name")), F.kp, F.bindsN fun _ _ _ _ _ _ us hl => match us, hl with | [_], _ => rfl, F⟩
  is_number := by
    obtain ⟨fd, F⟩ : ∃ fd, DfOk (gv K) "is_number" "is_number" s_is_number (He.ga K "is_number") fd := c.d.def_ 2 (d := d_is_number)
    exact ⟨_, fd, He.glo_ok X N (c.fact 12 (f := .glo "is_number")), F.kp, F.bindsN fun _ _ _ _ _ _ us hl => match us, hl with | [_], _ => rfl, F⟩
  worded := by
    obtain ⟨fd, F⟩ : ∃ fd, DfOk (gv K) "worded" "worded" s_worded (He.ga K "worded") fd := c.d.def_ 3 (d := d_worded)
    exact ⟨_, fd, He.glo_ok X N (c.fact 13 (f := .glo "worded")), F.kp, F.bindsN fun _ _ _ _ _ _ us hl => match us, hl with | [_], _ => rfl, F⟩
  chain_rows := by
    obtain ⟨fd, F⟩ : ∃ fd, DfOk (gv K) "chain_rows" "chain_rows" s_chain_rows (He.ga K "chain_rows") fd := c.d.def_ 4 (d := d_chain_rows)
    exact ⟨_, fd, He.glo_ok X N (c.fact 14 (f := .glo "chain_rows")), F.kp, F.bindsN fun _ _ _ _ _ _ us hl => match us, hl with | [_, _], _ => rfl, F⟩
  book_text := by
    obtain ⟨fd, F⟩ : ∃ fd, DfOk (gv K) "book_text" "book_text" s_book_text (He.ga K "book_text") fd := c.d.def_ 5 (d := d_book_text)
    exact ⟨_, fd, He.glo_ok X N (c.fact 15 (f := .glo "book_text")), F.kp, F.bindsN fun _ _ _ _ _ _ us hl => match us, hl with | [_], _ => rfl, F⟩
  Lines___init := by
    obtain ⟨fd, F⟩ : ∃ fd, DfOk (gv K) "__init__" "Lines.__init__" s_Lines___init (He.ma K (He.ga K "Lines") "__init__") fd := c.d.def_ 6 (d := d_Lines___init)
    exact ⟨_, fd, He.glo_ok X N (c.fact 33 (f := .glo "Lines")), He.mkr_ok (c.fact 37 (f := .mkr "Lines")), F.bindsN fun _ _ _ _ _ _ us hl => match us, hl with | [_, _], _ => rfl, F⟩
  Lines_here := by
    obtain ⟨fd, F⟩ : ∃ fd, DfOk (gv K) "here" "Lines.here" s_Lines_here (He.ma K (He.ga K "Lines") "here") fd := c.d.def_ 7 (d := d_Lines_here)
    exact ⟨_, fd, He.meth_ok (c.fact 38 (f := .meth "Lines" "here")), (by decide +kernel : ("here" : Str) ∉ clsFields 2), F.bindsN fun _ _ _ _ _ _ us hl => match us, hl with | [_], _ => rfl, F⟩
  Lines_need := by
    obtain ⟨fd, F⟩ : ∃ fd, DfOk (gv K) "need" "Lines.need" s_Lines_need (He.ma K (He.ga K "Lines") "need") fd := c.d.def_ 8 (d := d_Lines_need)
    exact ⟨_, fd, He.meth_ok (c.fact 39 (f := .meth "Lines" "need")), (by decide +kernel : ("need" : Str) ∉ clsFields 2), F.bindsN fun _ _ _ _ _ _ us hl => match us, hl with | [_, _], _ => rfl, F⟩
  Lines_read_numbers := by
    obtain ⟨fd, F⟩ : ∃ fd, DfOk (gv K) "read_numbers" "Lines.read_numbers" s_Lines_read_numbers (He.ma K (He.ga K "Lines") "read_numbers") fd := c.d.def_ 9 (d := d_Lines_read_numbers)
    exact ⟨_, fd, He.meth_ok (c.fact 40 (f := .meth "Lines" "read_numbers")), (by decide +kernel : ("read_numbers" : Str) ∉ clsFields 2), F.bindsN fun _ _ _ _ _ _ us hl => match us, hl with | [_, _], _ => rfl, F⟩
  head_of := by
    obtain ⟨fd, F⟩ : ∃ fd, DfOk (gv K) "head_of" "head_of" s_head_of (He.ga K "head_of") fd := c.d.def_ 10 (d := d_head_of)
    exact ⟨_, fd, He.glo_ok X N (c.fact 16 (f := .glo "head_of")), F.kp, F.bindsN fun _ _ _ _ _ _ us hl => match us, hl with | [_], _ => rfl, F⟩
  what_of := by
    obtain ⟨fd, F⟩ : ∃ fd, DfOk (gv K) "what_of" "what_of" s_what_of (He.ga K "what_of") fd := c.d.def_ 11 (d := d_what_of)
    exact ⟨_, fd, He.glo_ok X N (c.fact 17 (f := .glo "what_of")), F.kp, F.bindsN fun _ _ _ _ _ _ us hl => match us, hl with | [_, _], _ => rfl, F⟩
  step_of := by
    obtain ⟨fd, F⟩ : ∃ fd, DfOk (gv K) "step_of" "step_of" s_step_of (He.ga K "step_of") fd := c.d.def_ 12 (d := d_step_of)
    exact ⟨_, fd, He.glo_ok X N (c.fact 18 (f := .glo "step_of")), F.kp, F.bindsN fun _ _ _ _ _ _ us hl => match us, hl with | [_], _ => rfl, F⟩
  chain_of := by
    obtain ⟨fd, F⟩ : ∃ fd, DfOk (gv K) "chain_of" "chain_of" s_chain_of (He.ga K "chain_of") fd := c.d.def_ 13 (d := d_chain_of)
    exact ⟨_, fd, He.glo_ok X N (c.fact 19 (f := .glo "chain_of")), F.kp, F.bindsN fun _ _ _ _ _ _ us hl => match us, hl with | [_], _ => rfl, F⟩
  read_book := by
    obtain ⟨fd, F⟩ : ∃ fd, DfOk (gv K) "read_book" "read_book" s_read_book (He.ga K "read_book") fd := c.d.def_ 14 (d := d_read_book)
    exact ⟨_, fd, He.glo_ok X N (c.fact 20 (f := .glo "read_book")), F.kp, F.bindsN fun _ _ _ _ _ _ us hl => match us, hl with | [_], _ => rfl, F⟩
  l_box := by
    obtain ⟨fd, F⟩ : ∃ fd, DfOk (gv K) "_law_box" "_law_box" s_l_box (He.ga K "_law_box") fd := c.d.def_ 15 (d := d_l_box)
    exact ⟨_, fd, He.glo_ok X N (c.fact 21 (f := .glo "_law_box")), F.kp, F.bindsN fun _ _ _ _ _ _ us hl => match us, hl with | [_, _], _ => rfl, F⟩
  l_take := by
    obtain ⟨fd, F⟩ : ∃ fd, DfOk (gv K) "_law_take" "_law_take" s_l_take (He.ga K "_law_take") fd := c.d.def_ 16 (d := d_l_take)
    exact ⟨_, fd, He.glo_ok X N (c.fact 22 (f := .glo "_law_take")), F.kp, F.bindsN fun _ _ _ _ _ _ us hl => match us, hl with | [_, _], _ => rfl, F⟩
  l_number := by
    obtain ⟨fd, F⟩ : ∃ fd, DfOk (gv K) "_law_number" "_law_number" s_l_number (He.ga K "_law_number") fd := c.d.def_ 17 (d := d_l_number)
    exact ⟨_, fd, He.glo_ok X N (c.fact 23 (f := .glo "_law_number")), F.kp, F.bindsN fun _ _ _ _ _ _ us hl => match us, hl with | [_], _ => rfl, F⟩
  l_names := by
    obtain ⟨fd, F⟩ : ∃ fd, DfOk (gv K) "_law_names" "_law_names" s_l_names (He.ga K "_law_names") fd := c.d.def_ 18 (d := d_l_names)
    exact ⟨_, fd, He.glo_ok X N (c.fact 24 (f := .glo "_law_names")), F.kp, F.bindsN fun _ _ _ _ _ _ us hl => match us, hl with | [_, _], _ => rfl, F⟩
  l_alike := by
    obtain ⟨fd, F⟩ : ∃ fd, DfOk (gv K) "_law_alike" "_law_alike" s_l_alike (He.ga K "_law_alike") fd := c.d.def_ 19 (d := d_l_alike)
    exact ⟨_, fd, He.glo_ok X N (c.fact 25 (f := .glo "_law_alike")), F.kp, F.bindsN fun _ _ _ _ _ _ us hl => match us, hl with | [_, _], _ => rfl, F⟩
  l_what := by
    obtain ⟨fd, F⟩ : ∃ fd, DfOk (gv K) "_law_what" "_law_what" s_l_what (He.ga K "_law_what") fd := c.d.def_ 20 (d := d_l_what)
    exact ⟨_, fd, He.glo_ok X N (c.fact 26 (f := .glo "_law_what")), F.kp, F.bindsN fun _ _ _ _ _ _ us hl => match us, hl with | [_, _, _, _], _ => rfl, F⟩
  l_chain := by
    obtain ⟨fd, F⟩ : ∃ fd, DfOk (gv K) "_law_chain" "_law_chain" s_l_chain (He.ga K "_law_chain") fd := c.d.def_ 21 (d := d_l_chain)
    exact ⟨_, fd, He.glo_ok X N (c.fact 27 (f := .glo "_law_chain")), F.kp, F.bindsN fun _ _ _ _ _ _ us hl => match us, hl with | [_, _, _, _], _ => rfl, F⟩
  l_worded := by
    obtain ⟨fd, F⟩ : ∃ fd, DfOk (gv K) "_law_worded" "_law_worded" s_l_worded (He.ga K "_law_worded") fd := c.d.def_ 22 (d := d_l_worded)
    exact ⟨_, fd, He.glo_ok X N (c.fact 28 (f := .glo "_law_worded")), F.kp, F.bindsN fun _ _ _ _ _ _ us hl => match us, hl with | [_], _ => rfl, F⟩
  l_chain_rows := by
    obtain ⟨fd, F⟩ : ∃ fd, DfOk (gv K) "_law_chain_rows" "_law_chain_rows" s_l_chain_rows (He.ga K "_law_chain_rows") fd := c.d.def_ 23 (d := d_l_chain_rows)
    exact ⟨_, fd, He.glo_ok X N (c.fact 29 (f := .glo "_law_chain_rows")), F.kp, F.bindsN fun _ _ _ _ _ _ us hl => match us, hl with | [_, _], _ => rfl, F⟩
  l_loose := by
    obtain ⟨fd, F⟩ : ∃ fd, DfOk (gv K) "_law_loose" "_law_loose" s_l_loose (He.ga K "_law_loose") fd := c.d.def_ 24 (d := d_l_loose)
    exact ⟨_, fd, He.glo_ok X N (c.fact 30 (f := .glo "_law_loose")), F.kp, F.bindsN fun _ _ _ _ _ _ us hl => match us, hl with | [_, _], _ => rfl, F⟩
  law := by
    obtain ⟨fd, F⟩ : ∃ fd, DfOk (gv K) "law" "law" s_law (He.ga K "law") fd := c.d.def_ 25 (d := d_law)
    exact ⟨_, fd, He.glo_ok X N (c.fact 31 (f := .glo "law")), F.kp, F.bindsN fun _ _ _ _ _ _ us hl => match us, hl with | [_], _ => rfl, F⟩
end
section
variable {P : Program} {w : World} {K : PySem.W.Frag} {mg : Str → Option Value} {base : Heap}
theorem en (T : Tx w (gv K) mg) (N : Nm mg K) : ∀ k, En P w (gv K) mg base (2 * k) (callD k)
  | 0 => {
    made_of := N.made_of.fn fun _ _ _ => fno0
    is_name := N.is_name.fn fun _ _ _ => fno0
    is_number := N.is_number.fn fun _ _ _ => fno0
    worded := N.worded.fn fun _ _ _ => fno0
    chain_rows := N.chain_rows.fn fun _ _ _ => fno0
    book_text := N.book_text.fn fun _ _ _ => fno0
    Lines___init := N.Lines___init.fn fun _ _ _ => fno0
    Lines_here := N.Lines_here.fn fun _ _ _ => fno0
    Lines_need := N.Lines_need.fn fun _ _ _ => fno0
    Lines_read_numbers := N.Lines_read_numbers.fn fun _ _ _ => fno0
    head_of := N.head_of.fn fun _ _ _ => fno0
    what_of := N.what_of.fn fun _ _ _ => fno0
    step_of := N.step_of.fn fun _ _ _ => fno0
    chain_of := N.chain_of.fn fun _ _ _ => fno0
    read_book := N.read_book.fn fun _ _ _ => fno0
    l_box := N.l_box.fn fun _ _ _ => fno0
    l_take := N.l_take.fn fun _ _ _ => fno0
    l_number := N.l_number.fn fun _ _ _ => fno0
    l_names := N.l_names.fn fun _ _ _ => fno0
    l_alike := N.l_alike.fn fun _ _ _ => fno0
    l_what := N.l_what.fn fun _ _ _ => fno0
    l_chain := N.l_chain.fn fun _ _ _ => fno0
    l_worded := N.l_worded.fn fun _ _ _ => fno0
    l_chain_rows := N.l_chain_rows.fn fun _ _ _ => fno0
    l_loose := N.l_loose.fn fun _ _ _ => fno0
    law := N.law.fn fun _ _ _ => fno0
  }
  | k + 1 => have e := en T N k; {
    made_of := N.made_of.fn fun _ _ F => ok_made_of F T e
    is_name := N.is_name.fn fun _ _ F => ok_is_name F T e
    is_number := N.is_number.fn fun _ _ F => ok_is_number F T e
    worded := N.worded.fn fun _ _ F => ok_worded F T e
    chain_rows := N.chain_rows.fn fun _ _ F => ok_chain_rows F T e
    book_text := N.book_text.fn fun _ _ F => ok_book_text F T e
    Lines___init := N.Lines___init.fn fun _ _ F => ok_Lines___init F T e
    Lines_here := N.Lines_here.fn fun _ _ F => ok_Lines_here F T e
    Lines_need := N.Lines_need.fn fun _ _ F => ok_Lines_need F T e
    Lines_read_numbers := N.Lines_read_numbers.fn fun _ _ F => ok_Lines_read_numbers F T e
    head_of := N.head_of.fn fun _ _ F => ok_head_of F T e
    what_of := N.what_of.fn fun _ _ F => ok_what_of F T e
    step_of := N.step_of.fn fun _ _ F => ok_step_of F T e
    chain_of := N.chain_of.fn fun _ _ F => ok_chain_of F T e
    read_book := N.read_book.fn fun _ _ F => ok_read_book F T e
    l_box := N.l_box.fn fun _ _ F => ok_l_box F T e
    l_take := N.l_take.fn fun _ _ F => ok_l_take F T e
    l_number := N.l_number.fn fun _ _ F => ok_l_number F T e
    l_names := N.l_names.fn fun _ _ F => ok_l_names F T e
    l_alike := N.l_alike.fn fun _ _ F => ok_l_alike F T e
    l_what := N.l_what.fn fun _ _ F => ok_l_what F T e
    l_chain := N.l_chain.fn fun _ _ F => ok_l_chain F T e
    l_worded := N.l_worded.fn fun _ _ F => ok_l_worded F T e
    l_chain_rows := N.l_chain_rows.fn fun _ _ F => ok_l_chain_rows F T e
    l_loose := N.l_loose.fn fun _ _ F => ok_l_loose F T e
    law := N.law.fn fun _ _ F => ok_law F T e
  }
end
/-- the end -/
theorem holds (Z : Tells 63 (callD 64).law) : PySem.Challenge.rw_againbook_k60_books_written_and_read.Holds := by
  w_on; o_law
  refine HandSHeadRun.head_any (r := PySem.W.OpenLaw.row PySem.Challenge.rw_againbook_k60_books_written_and_read) (q := PySem.W.view (PySem.W.OpenLaw.row PySem.Challenge.rw_againbook_k60_books_written_and_read).prog [35]) (H := hk) (ob := ob) (M := 6000) (loose := loose) (d := HandSHeadRun.topDef (PySem.W.OpenLaw.row PySem.Challenge.rw_againbook_k60_books_written_and_read).prog 35) (kwd := []) ob_eq
    (by kernel_rfl) (fun s => by kernel_rfl) run (by kernel_rfl) (by kernel_rfl) (by kernel_rfl) (by rfl) (by first | assumption | decide +kernel) (by decide +kernel) ⟨rfl, rfl, rfl, rfl, rfl, by decide +kernel⟩ ?hw ?hc
  case hw => w_witness2
  case hc =>
    refine walk_D (l := PySem.Challenge.rw_againbook_k60_books_written_and_read) (n := 63) (k := 45) (j := 128) (x := "_law_script") rfl (by decide) (by kernel_rfl) ⟨rfl, by decide, by decide⟩ (by decide) ?F
    intro w mg fa h Y N hmg0
    obtain ⟨K, X, c⟩ := Y
    have hmg : mg ("law" : Str) = some (.ref fa) := by
      have e : (HandSHeadRun.topDef (PySem.W.OpenLaw.row PySem.Challenge.rw_againbook_k60_books_written_and_read).prog 35).name = ("law" : Str) := by kernel_rfl
      rw [← e]; exact hmg0
    have T : Tx w (gv K) mg := tx c X N
    have M : Nm mg K := nm c X N
    obtain ⟨fa2, fd, e1, e2, e3, F⟩ := M.law
    have e4 := hmg.symm.trans e1
    cases e4
    have b := FunD.bindsA (ps := ["_law_script"]) F fun _ _ _ _ _ _ us hl => match us, hl with | [_], _ => rfl
    exact ⟨gv K, fd, (callD 64).law, X, fun s v => b s [v] rfl, Z, fun base _ _ => ok_law F T (en T M 63)⟩
end k60

set_option Elab.async false
set_option linter.all false
set_option maxRecDepth 100000
set_option maxHeartbeats 1000000
namespace k60
open PySem PySem.Spec PyProof.Rows L2 ML
def BoxM (m : MO) : Prop := ∃ x y : Int, m = .lst [.int x, .int y] ∧ 0 ≤ x ∧ 0 ≤ y ∧ y < 2 ^ 31
theorem cmul_r {i j : Int} (a : -(2 ^ 64) < j) (b : j < 2 ^ 64) : CMulD i j := .inr ⟨a, b⟩
theorem cmul_l {i j : Int} (a : -(2 ^ 64) < i) (b : i < 2 ^ 64) : CMulD i j := .inl ⟨a, b⟩
theorem take_ok {k : Nat} {b : Addr} {wide : Int} {h : DH} {m : MO} {q : DQ} {x : DX} (hb : h b = some m) (hm : BoxM m) (w0 : 0 < wide) (w1 : wide < 2 ^ 63)
    (z : ∀ r m', BoxM m' → 0 ≤ r → r < wide → q (.int r) (dup h b m')) : (callD (k + 1)).l_take [.ref b, .int wide] h q x := by
  obtain ⟨u, v, rfl, u0, v0, v1⟩ := hm
  rw [cd_l_take]; simp only [tb_l_take_1, tb_l_take_2, tb_l_take_3, tb_l_take_4, tb_l_take_5, tb_l_take, body, dstart, dSeq, dIf, dAsg, dRet, dRetN, dNext, dDrop, dTest, dAnd, dOr, dNot, dAndV, dOrV, dNotV, dIfE, dOp, dUn, dC, dVar_e, dNil, dCons, dTup, dLst, dCall, dM1, dL1_e, dSl, oNo, oSo, gSet, gUn, gsCons, gsNil, dStI_e, dYes, ex_eq, ex_eq1, ex_bl, ex_str, ex_int, ex_ref, ex_tup, ex_cons, ex_lst1, ex_ins1, ex_ds, split_1, qin_str, qnin_str, append_, add_ii, add_ss, add_tt, sub_ii, mul_ii, mul_si, div_ii, mod_ii, pow_ii, lt_ii, le_ii, gt_ii, ge_ii, neg_i, eq_ii, eq_ss, ne_ii, ne_ss, qix_tup, qix_cl, qix_str, at0, at1, at2, at3, qlen_tup, qlen_cl, qlen_str, toI_i, toI_b, toI_s, toS_i, toS_s, qsl_tup, qsl_cl, qsl_str, List.map_cons, List.map_nil, List.length_cons, List.length_nil, List.replicate, List.cons_append, List.nil_append, List.getElem?_cons_zero, List.getElem?_cons_succ, List.set_cons_zero, List.set_cons_succ, true_and, and_true, Nat.reduceAdd, Nat.reduceSub, decide_eq_true_eq, qix_ref hb, stI_ hb (show ixN [D.int u, D.int v].length 0 = some 0 from rfl), stI_ hb (show ixN [D.int u, D.int v].length 1 = some 1 from rfl), qix_ref (dup_same (h := h) (a := b))]
  have dv : CDivD u wide := ⟨w0, by omega⟩
  by_cases hu : 0 < u
  · rw [if_pos hu]
    exact ⟨w0, dv, wkq0 (z _ _ ⟨_, _, rfl, Int.ediv_nonneg u0 (by omega), v0, v1⟩ (Int.emod_nonneg _ (by omega)) (Int.emod_lt_of_pos _ w0))⟩
  · rw [if_neg hu]
    have a0 := Int.emod_nonneg (v * 69621) (show (2147483647 : Int) ≠ 0 by decide)
    have a1 := Int.emod_lt_of_pos (v * 69621) (show (0 : Int) < 2147483647 by decide)
    generalize v * 69621 % 2147483647 = o at *
    have c0 := Int.emod_nonneg (o * 48271 + 30103) (show (2147483646 : Int) ≠ 0 by decide)
    have c1 := Int.emod_lt_of_pos (o * 48271 + 30103) (show (0 : Int) < 2147483646 by decide)
    generalize (o * 48271 + 30103) % 2147483646 = e at *
    have d0 : 0 ≤ (o * 2147483647 + (e + 1)) / 8191 := Int.ediv_nonneg (by omega) (by decide)
    have d1 : (o * 2147483647 + (e + 1)) / 8191 < 2 ^ 64 := by omega
    generalize (o * 2147483647 + (e + 1)) / 8191 = f at *
    have bx : BoxM (MO.lst [D.int u, D.int (e + 1)]) := ⟨_, _, rfl, u0, by omega, by omega⟩
    refine ⟨cmul_r (by decide) (by decide), by decide, cmul_r (by decide) (by decide), by decide, cmul_r (by decide) (by decide), ⟨by decide, by decide⟩, ⟨by decide, by decide, by decide⟩, ?_⟩
    split
    · exact ⟨cmul_r (by omega) (by omega), w0, wkq0 (z _ _ bx (Int.emod_nonneg _ (by omega)) (Int.emod_lt_of_pos _ w0))⟩
    · exact ⟨w0, wkq0 (z _ _ bx (Int.emod_nonneg _ (by omega)) (Int.emod_lt_of_pos _ w0))⟩
theorem number_ok {k : Nat} {b : Addr} {h : DH} {m : MO} {q : DQ} {x : DX} (hb : h b = some m) (hm : BoxM m)
    (z : ∀ r m', BoxM m' → 0 ≤ r → r < 10 ^ 18 → q (.int r) (dup h b m')) : (callD (k + 2)).l_number [.ref b] h q x := by
  rw [cd_l_number]; simp only [tb_l_number, body, dstart, dSeq, dIf, dAsg, dRet, dRetN, dNext, dDrop, dTest, dAnd, dOr, dNot, dAndV, dOrV, dNotV, dIfE, dOp, dUn, dC, dVar_e, dNil, dCons, dTup, dLst, dCall, dM1, dL1_e, dSl, oNo, oSo, gSet, gUn, gsCons, gsNil, dStI_e, dYes, ex_eq, ex_eq1, ex_bl, ex_str, ex_int, ex_ref, ex_tup, ex_cons, ex_lst1, ex_ins1, ex_ds, split_1, qin_str, qnin_str, append_, add_ii, add_ss, add_tt, sub_ii, mul_ii, mul_si, div_ii, mod_ii, pow_ii, lt_ii, le_ii, gt_ii, ge_ii, neg_i, eq_ii, eq_ss, ne_ii, ne_ss, qix_tup, qix_cl, qix_str, at0, at1, at2, at3, qlen_tup, qlen_cl, qlen_str, toI_i, toI_b, toI_s, toS_i, toS_s, qsl_tup, qsl_cl, qsl_str, List.map_cons, List.map_nil, List.length_cons, List.length_nil, List.replicate, List.cons_append, List.nil_append, List.getElem?_cons_zero, List.getElem?_cons_succ, List.set_cons_zero, List.set_cons_succ, true_and, and_true, Nat.reduceAdd, Nat.reduceSub, decide_eq_true_eq]
  refine take_ok hb hm (by decide) (by decide) fun r m1 h1 r0 r1 => ?_
  by_cases e : r = 0
  · subst e
    simp only [eq_ii, ex_bl, decide_eq_true_eq, if_true, pow_ii]
    refine ⟨⟨by decide, by decide, by decide⟩, take_ok dup_same h1 (by decide) (by decide) fun r m2 h2 r0 r1 => wkq0 ?_⟩
    rw [dup_dup]; exact z r m2 h2 r0 (by simpa using r1)
  · simp only [eq_ii, ex_bl, decide_eq_true_eq, if_neg e]
    refine take_ok dup_same h1 (by decide) (by decide) fun r m2 h2 r0 r1 => wkq0 ?_
    rw [dup_dup]; exact z r m2 h2 r0 (by omega)
theorem at_ints {ns : List Int} {j : Int} (h0 : 0 ≤ j) (h1 : j < ns.length) : ∃ c : Int, atI (ns.map D.int) j = some (.int c) := by
  obtain ⟨n, rfl⟩ := Int.eq_ofNat_of_zero_le h0
  have hn : n < ns.length := by omega
  exact ⟨ns[n], atI_nat (by rw [List.getElem?_map, List.getElem?_eq_getElem hn]; rfl)⟩
theorem box_m (c j : Int) : BoxM (MO.lst [D.int (c * if 10 ^ Int.toNat 18 ≤ c then 1 else 0), D.int ((c % 2147483629 * 48271 + 40692 * j) % 2147483646 + 1)]) := by
  have a0 := Int.emod_nonneg (c % 2147483629 * 48271 + 40692 * j) (show (2147483646 : Int) ≠ 0 by decide)
  have a1 := Int.emod_lt_of_pos (c % 2147483629 * 48271 + 40692 * j) (show (0 : Int) < 2147483646 by decide)
  refine ⟨_, _, rfl, ?_, by omega, by omega⟩
  split
  · rename_i e
    have e : (10 : Int) ^ 18 ≤ c := e
    omega
  · omega
theorem box_ok {k : Nat} {ns : List Int} {j : Int} {h : DH} {q : DQ} {x : DX} (hj : 0 ≤ j)
    (z : ∀ m p, BoxM m → h p = none → q (.ref p) (dup h p m)) : (callD (k + 1)).l_box [.cl (ns.map .int), .int j] h q x := by
  have sm (c : Int) : CMulD c (if 10 ^ Int.toNat 18 ≤ c then 1 else 0) := cmul_r (by split <;> decide) (by split <;> decide)
  rw [cd_l_box]; simp only [tb_l_box_1, tb_l_box_2, tb_l_box, body, dstart, dSeq, dIf, dAsg, dRet, dRetN, dNext, dDrop, dTest, dAnd, dOr, dNot, dAndV, dOrV, dNotV, dIfE, dOp, dUn, dC, dVar_e, dNil, dCons, dTup, dLst, dCall, dM1, dL1_e, dSl, oNo, oSo, gSet, gUn, gsCons, gsNil, dStI_e, dYes, ex_eq, ex_eq1, ex_bl, ex_str, ex_int, ex_ref, ex_tup, ex_cons, ex_lst1, ex_ins1, ex_ds, split_1, qin_str, qnin_str, append_, add_ii, add_ss, add_tt, sub_ii, mul_ii, mul_si, div_ii, mod_ii, pow_ii, lt_ii, le_ii, gt_ii, ge_ii, neg_i, eq_ii, eq_ss, ne_ii, ne_ss, qix_tup, qix_cl, qix_str, at0, at1, at2, at3, qlen_tup, qlen_cl, qlen_str, toI_i, toI_b, toI_s, toS_i, toS_s, qsl_tup, qsl_cl, qsl_str, List.map_cons, List.map_nil, List.length_cons, List.length_nil, List.replicate, List.cons_append, List.nil_append, List.getElem?_cons_zero, List.getElem?_cons_succ, List.set_cons_zero, List.set_cons_succ, true_and, and_true, Nat.reduceAdd, Nat.reduceSub, decide_eq_true_eq, List.length_map]
  refine ⟨cmul_l (by decide) (by decide), ?_⟩
  by_cases h1 : j < ns.length
  · rw [if_pos h1]
    obtain ⟨c, e⟩ := at_ints hj h1
    refine ⟨_, e, ?_⟩
    simp only [body, dstart, dSeq, dIf, dAsg, dRet, dRetN, dNext, dDrop, dTest, dAnd, dOr, dNot, dAndV, dOrV, dNotV, dIfE, dOp, dUn, dC, dVar_e, dNil, dCons, dTup, dLst, dCall, dM1, dL1_e, dSl, oNo, oSo, gSet, gUn, gsCons, gsNil, dStI_e, dYes, ex_eq, ex_eq1, ex_bl, ex_str, ex_int, ex_ref, ex_tup, ex_cons, ex_lst1, ex_ins1, ex_ds, split_1, qin_str, qnin_str, append_, add_ii, add_ss, add_tt, sub_ii, mul_ii, mul_si, div_ii, mod_ii, pow_ii, lt_ii, le_ii, gt_ii, ge_ii, neg_i, eq_ii, eq_ss, ne_ii, ne_ss, qix_tup, qix_cl, qix_str, at0, at1, at2, at3, qlen_tup, qlen_cl, qlen_str, toI_i, toI_b, toI_s, toS_i, toS_s, qsl_tup, qsl_cl, qsl_str, List.map_cons, List.map_nil, List.length_cons, List.length_nil, List.replicate, List.cons_append, List.nil_append, List.getElem?_cons_zero, List.getElem?_cons_succ, List.set_cons_zero, List.set_cons_succ, true_and, and_true, Nat.reduceAdd, Nat.reduceSub, decide_eq_true_eq]
    exact ⟨by decide, cmul_r (by decide) (by decide), cmul_l (by decide) (by decide), by decide, ⟨by decide, by decide, by decide⟩, sm c, by decide, fun p hp => wkq0 (z _ p (box_m c j) hp)⟩
  · rw [if_neg h1]
    by_cases h2 : 0 < (ns.length : Int)
    · rw [if_pos h2]
      obtain ⟨c, e⟩ := at_ints (Int.emod_nonneg j (by omega)) (Int.emod_lt_of_pos j h2)
      refine ⟨h2, _, e, ?_⟩
      simp only [body, dstart, dSeq, dIf, dAsg, dRet, dRetN, dNext, dDrop, dTest, dAnd, dOr, dNot, dAndV, dOrV, dNotV, dIfE, dOp, dUn, dC, dVar_e, dNil, dCons, dTup, dLst, dCall, dM1, dL1_e, dSl, oNo, oSo, gSet, gUn, gsCons, gsNil, dStI_e, dYes, ex_eq, ex_eq1, ex_bl, ex_str, ex_int, ex_ref, ex_tup, ex_cons, ex_lst1, ex_ins1, ex_ds, split_1, qin_str, qnin_str, append_, add_ii, add_ss, add_tt, sub_ii, mul_ii, mul_si, div_ii, mod_ii, pow_ii, lt_ii, le_ii, gt_ii, ge_ii, neg_i, eq_ii, eq_ss, ne_ii, ne_ss, qix_tup, qix_cl, qix_str, at0, at1, at2, at3, qlen_tup, qlen_cl, qlen_str, toI_i, toI_b, toI_s, toS_i, toS_s, qsl_tup, qsl_cl, qsl_str, List.map_cons, List.map_nil, List.length_cons, List.length_nil, List.replicate, List.cons_append, List.nil_append, List.getElem?_cons_zero, List.getElem?_cons_succ, List.set_cons_zero, List.set_cons_succ, true_and, and_true, Nat.reduceAdd, Nat.reduceSub, decide_eq_true_eq]
      exact ⟨by decide, cmul_r (by decide) (by decide), by decide, cmul_r (by decide) (by decide), cmul_l (by decide) (by decide), by decide, ⟨by decide, by decide, by decide⟩, sm _, by decide, fun p hp => wkq0 (z _ p (box_m _ j) hp)⟩
    · rw [if_neg h2]
      exact ⟨by decide, cmul_r (by decide) (by decide), cmul_l (by decide) (by decide), by decide, ⟨by decide, by decide, by decide⟩, sm _, by decide, fun p hp => wkq0 (z _ p (box_m _ j) hp)⟩
/-- a block's items, drawn from the box -/
def GenE (b : Addr) (P : D → Prop) (te : DTE) (s : DS) : Prop := ∀ h m F, h b = some m → BoxM m → (∀ y m', BoxM m' → P y → F y (dup h b m')) → te s h F
theorem comp_gen {b : Addr} {P : D → Prop} {te : DTE} {v : Nat} {s : DS} {q : List D → DH → Prop} (hg : ∀ d, GenE b P te (s.set v (some d))) : ∀ (items acc : List D) (h : DH) (m : MO), h b = some m → BoxM m → acc.length + items.length < sizeLine →
    (∀ ys m', BoxM m' → ys.length = items.length → (∀ y ∈ ys, P y) → q (acc ++ ys) (dup h b m')) → compD (fun _ => True) (gSet v) dYes te s q items acc h
  | [], acc, h, m, hb, hm, hl, z => ⟨trivial, by have := z [] m hm rfl (by simp); rwa [List.append_nil, dup_id hb] at this⟩
  | x :: r, acc, h, m, hb, hm, hl, z => by
    refine ⟨trivial, ?_⟩
    simp only [gSet, dYes, if_true]
    refine hg x h m _ hb hm fun y m' hm' hy => ⟨by simp at hl; omega, _, .refl _, comp_gen hg r (acc ++ [y]) _ m' dup_same hm' (by simp at hl ⊢; omega) fun ys m2 hm2 l2 p2 => ?_⟩
    rw [dup_dup, List.append_assoc]
    exact z (y :: ys) m2 hm2 (by simp [l2]) (by intro w hw; rcases List.mem_cons.mp hw with e | e; subst e; exact hy; exact p2 w e)
theorem rngD_len {lo c : Int} {n : Nat} : (rngD lo c n).length = n := by simp [rngD]
theorem lc_gen {b : Addr} {P : D → Prop} {te : DTE} {v : Nat} {s : DS} {h : DH} {m : MO} {q : DQ} {ta : DTE} {n : Int} (h1 : ∀ r, ta s h r = r (.int n) h) (n0 : 0 ≤ n) (n1 : n < 10000) (hb : h b = some m) (hm : BoxM m) (hg : ∀ d, GenE b P te ((s.set v none).set v (some d)))
    (z : ∀ ys m' p, BoxM m' → h p = none → ys.length = n.toNat → (∀ y ∈ ys, P y) → q (.ref p) (dup (dup h b m') p (.lst ys))) : dLc (ML.iRng1 ta) (gSet v) dYes te [v] s h q := by
  unfold dLc ML.iRng1
  rw [h1]
  refine ⟨n, rfl, by omega, by omega, h, .refl _, comp_gen (b := b) (P := P) hg _ _ h m hb hm (by rw [rngD_len]; simp; unfold sizeLine; omega) fun ys m' hm' hl hp p hn => ?_⟩
  rw [List.nil_append]
  refine z ys m' p hm' ?_ (by rw [hl, rngD_len]) hp
  have hne := free_ne (h := dup h b m') dup_same hn
  rwa [dup_ne (Ne.symm hne)] at hn
/-! ### names -/
def isLet (c : Nat) : Prop := 97 ≤ c ∧ c ≤ 122
def LT : List Nat := [97, 98, 99, 100, 101, 102, 103, 104, 105, 106, 107, 108, 109, 110, 111, 112, 113, 114, 115, 116, 117, 118, 119, 120, 121, 122]
theorem mem_LT {c : Nat} : c ∈ LT ↔ isLet c := by
  unfold LT isLet; simp only [List.mem_cons, List.not_mem_nil, or_false]; omega
theorem at_LT {i : Int} (h0 : 0 ≤ i) (h1 : i < 26) : ∃ c, atI LT i = some c ∧ isLet c := by
  obtain ⟨n, rfl⟩ := Int.eq_ofNat_of_zero_le h0
  have hn : n < LT.length := by have : LT.length = 26 := rfl; omega
  exact ⟨LT[n], atI_nat (List.getElem?_eq_getElem hn), mem_LT.mp (List.getElem_mem hn)⟩
def OneL (y : D) : Prop := ∃ c, isLet c ∧ y = .str [c]
theorem strs_one : ∀ {ys : List D}, (∀ y ∈ ys, OneL y) → ∃ zs : List (List Nat), strsD ys = some zs ∧ ys = zs.map .str ∧ ∀ z ∈ zs, ∃ c, isLet c ∧ z = [c]
  | [], _ => ⟨[], rfl, rfl, by simp⟩
  | y :: r, h => by
    obtain ⟨zs, e1, e2, e3⟩ := strs_one fun y hy => h y (List.mem_cons_of_mem _ hy)
    obtain ⟨c, hc, e⟩ := h y (List.mem_cons_self ..)
    subst e
    exact ⟨[c] :: zs, by simp [strsD, e1], by simp [e2], by
      intro z hz
      rcases List.mem_cons.mp hz with e | e
      · exact ⟨c, hc, e⟩
      · exact e3 z e⟩
def KL : List (List Nat) := [[100, 101, 102], [115, 101, 116], [114, 101, 97, 100], [119, 114, 105, 116, 101], [99, 97, 108, 108], [105, 102], [101, 108, 115, 101], [119, 104, 105, 108, 101], [103, 105, 118, 101], [101, 110, 100]]
structure NameW (z : List Nat) : Prop where
  ne : z ≠ []
  le : z.length ≤ 8
  lets : ∀ c ∈ z, isLet c
  nk : z ∉ KL
theorem take_let {k : Nat} {b : Addr} {s : DS} (e0 : s[0]? = some (some (.ref b))) (e2 : s[2]? = some (some (.str LT))) : GenE b OneL (dOp dIx (dVar 2) (dCall (callD (k + 1)).l_take dNoW (dCons (dVar 0) (dCons (dC (.int 26)) dNil)))) s := by
  intro h m F hb hm z
  simp only [body, dstart, dSeq, dIf, dAsg, dRet, dRetN, dNext, dDrop, dTest, dAnd, dOr, dNot, dAndV, dOrV, dNotV, dIfE, dOp, dUn, dC, dVar_e, dNil, dCons, dTup, dLst, dCall, dM1, dL1_e, dSl, oNo, oSo, gSet, gUn, gsCons, gsNil, dStI_e, dYes, ex_eq, ex_eq1, ex_bl, ex_str, ex_int, ex_ref, ex_tup, ex_cons, ex_lst1, ex_ins1, ex_ds, split_1, qin_str, qnin_str, append_, add_ii, add_ss, add_tt, sub_ii, mul_ii, mul_si, div_ii, mod_ii, pow_ii, lt_ii, le_ii, gt_ii, ge_ii, neg_i, eq_ii, eq_ss, ne_ii, ne_ss, qix_tup, qix_cl, qix_str, at0, at1, at2, at3, qlen_tup, qlen_cl, qlen_str, toI_i, toI_b, toI_s, toS_i, toS_s, qsl_tup, qsl_cl, qsl_str, List.map_cons, List.map_nil, List.length_cons, List.length_nil, List.replicate, List.cons_append, List.nil_append, List.getElem?_cons_zero, List.getElem?_cons_succ, List.set_cons_zero, List.set_cons_succ, true_and, and_true, Nat.reduceAdd, Nat.reduceSub, decide_eq_true_eq, e0, e2]
  refine take_ok hb hm (by decide) (by decide) fun r m' hm' r0 r1 => ?_
  obtain ⟨c, e, hc⟩ := at_LT r0 r1
  simp only [body, dstart, dSeq, dIf, dAsg, dRet, dRetN, dNext, dDrop, dTest, dAnd, dOr, dNot, dAndV, dOrV, dNotV, dIfE, dOp, dUn, dC, dVar_e, dNil, dCons, dTup, dLst, dCall, dM1, dL1_e, dSl, oNo, oSo, gSet, gUn, gsCons, gsNil, dStI_e, dYes, ex_eq, ex_eq1, ex_bl, ex_str, ex_int, ex_ref, ex_tup, ex_cons, ex_lst1, ex_ins1, ex_ds, split_1, qin_str, qnin_str, append_, add_ii, add_ss, add_tt, sub_ii, mul_ii, mul_si, div_ii, mod_ii, pow_ii, lt_ii, le_ii, gt_ii, ge_ii, neg_i, eq_ii, eq_ss, ne_ii, ne_ss, qix_tup, qix_cl, qix_str, at0, at1, at2, at3, qlen_tup, qlen_cl, qlen_str, toI_i, toI_b, toI_s, toS_i, toS_s, qsl_tup, qsl_cl, qsl_str, List.map_cons, List.map_nil, List.length_cons, List.length_nil, List.replicate, List.cons_append, List.nil_append, List.getElem?_cons_zero, List.getElem?_cons_succ, List.set_cons_zero, List.set_cons_succ, true_and, and_true, Nat.reduceAdd, Nat.reduceSub, decide_eq_true_eq, e]
  exact ⟨by decide, z _ m' hm' ⟨c, hc, rfl⟩⟩
theorem joinL_flat : ∀ (zs : List (List Nat)), TL.joinL [] zs = zs.flatten
  | [] => rfl
  | [p] => by simp [TL.joinL]
  | p :: q :: r => by rw [TL.joinL, joinL_flat (q :: r)]; simp
theorem flat_one : ∀ {zs : List (List Nat)}, (∀ z ∈ zs, ∃ c, isLet c ∧ z = [c]) → zs.flatten.length = zs.length ∧ ∀ c ∈ zs.flatten, isLet c
  | [], _ => by simp
  | z :: r, h => by
    obtain ⟨i1, i2⟩ := flat_one fun z hz => h z (List.mem_cons_of_mem _ hz)
    obtain ⟨c, hc, rfl⟩ := h z (List.mem_cons_self ..)
    refine ⟨by simp [i1], fun d hd => ?_⟩
    rw [List.flatten_cons] at hd
    rcases List.mem_append.mp hd with e | e
    · rw [List.mem_singleton.mp e]; exact hc
    · exact i2 d e
theorem sum_one : ∀ {zs : List (List Nat)}, (∀ z ∈ zs, ∃ c, isLet c ∧ z = [c]) → (zs.map (·.length)).sum = zs.length
  | [], _ => rfl
  | z :: r, h => by
    obtain ⟨c, _, rfl⟩ := h z (List.mem_cons_self ..)
    simp [sum_one fun z hz => h z (List.mem_cons_of_mem _ hz)]; omega
/-- a word that may still be one of the kept ones -/
structure WordW (z : List Nat) : Prop where
  ne : z ≠ []
  le : z.length ≤ 8
  lets : ∀ c ∈ z, isLet c
abbrev stN (b : Addr) (wide spot fi fo : Int) (p5 p : Addr) (v9 v10 v11 v14 : Option D) : DS := [some (D.ref b), some (D.int 6), some (D.str LT), some (D.int wide), some (D.int spot), some (D.ref p5), some (D.int fi), some (D.int fo), some (D.ref p), v9, v10, v11, none, none, v14]
abbrev hpN (h : DH) (b p5 p : Addr) (m : MO) (sg ws : List (List Nat)) : DH := dup (dup (dup h b m) p5 (.lst (sg.map .str))) p (.lst (ws.map .str))
theorem names_1 {C : Cl} {w : DW} {b p5 p : Addr} {wide spot fi fo : Int} {v9 v14 : Option D} {c : Nat} {z : List Nat} {h hh : DH} {m : MO} {sg ws : List (List Nat)} {E : DEnds} (hm : BoxM m) (hc : isLet c) (hz : WordW z) (hl : ws.length < 6)
    (hle : Le (hpN h b p5 p m sg ws) hh) (nx : ∀ z, NameW z → ∀ v9 v10 v11 hh', Le (hpN h b p5 p m sg (ws ++ [z])) hh' → E.nx (stN b wide spot fi fo p5 p v9 v10 v11 v14) hh') :
    tb_l_names_1 C w E (stN b wide spot fi fo p5 p v9 (some (.str [c])) (some (.str z)) v14) hh := by
  have ep : hh p = some (.lst (ws.map .str)) := hle _ _ dup_same
  have hlw : (ws.map D.str).length < sizeLine := by rw [List.length_map]; unfold sizeLine; omega
  simp only [tb_l_names_1, body, dstart, dSeq, dIf, dAsg, dRet, dRetN, dNext, dDrop, dTest, dAnd, dOr, dNot, dAndV, dOrV, dNotV, dIfE, dOp, dUn, dC, dVar_e, dNil, dCons, dTup, dLst, dCall, dM1, dL1_e, dSl, oNo, oSo, gSet, gUn, gsCons, gsNil, dStI_e, dYes, ex_eq, ex_eq1, ex_bl, ex_str, ex_int, ex_ref, ex_tup, ex_cons, ex_lst1, ex_ins1, ex_ds, split_1, qin_str, qnin_str, append_, add_ii, add_ss, add_tt, sub_ii, mul_ii, mul_si, div_ii, mod_ii, pow_ii, lt_ii, le_ii, gt_ii, ge_ii, neg_i, eq_ii, eq_ss, ne_ii, ne_ss, qix_tup, qix_cl, qix_str, at0, at1, at2, at3, qlen_tup, qlen_cl, qlen_str, toI_i, toI_b, toI_s, toS_i, toS_s, qsl_tup, qsl_cl, qsl_str, List.map_cons, List.map_nil, List.length_cons, List.length_nil, List.replicate, List.cons_append, List.nil_append, List.getElem?_cons_zero, List.getElem?_cons_succ, List.set_cons_zero, List.set_cons_succ, true_and, and_true, Nat.reduceAdd, Nat.reduceSub, decide_eq_true_eq]
  refine ⟨by decide, ?_⟩
  have e : ([D.str [100, 101, 102], D.str [115, 101, 116], D.str [114, 101, 97, 100], D.str [119, 114, 105, 116, 101], D.str [99, 97, 108, 108], D.str [105, 102], D.str [101, 108, 115, 101], D.str [119, 104, 105, 108, 101], D.str [103, 105, 118, 101], D.str [101, 110, 100]] : List D) = KL.map D.str := rfl
  rw [e, in_tupS]
  simp only [body, dstart, dSeq, dIf, dAsg, dRet, dRetN, dNext, dDrop, dTest, dAnd, dOr, dNot, dAndV, dOrV, dNotV, dIfE, dOp, dUn, dC, dVar_e, dNil, dCons, dTup, dLst, dCall, dM1, dL1_e, dSl, oNo, oSo, gSet, gUn, gsCons, gsNil, dStI_e, dYes, ex_eq, ex_eq1, ex_bl, ex_str, ex_int, ex_ref, ex_tup, ex_cons, ex_lst1, ex_ins1, ex_ds, split_1, qin_str, qnin_str, append_, add_ii, add_ss, add_tt, sub_ii, mul_ii, mul_si, div_ii, mod_ii, pow_ii, lt_ii, le_ii, gt_ii, ge_ii, neg_i, eq_ii, eq_ss, ne_ii, ne_ss, qix_tup, qix_cl, qix_str, at0, at1, at2, at3, qlen_tup, qlen_cl, qlen_str, toI_i, toI_b, toI_s, toS_i, toS_s, qsl_tup, qsl_cl, qsl_str, List.map_cons, List.map_nil, List.length_cons, List.length_nil, List.replicate, List.cons_append, List.nil_append, List.getElem?_cons_zero, List.getElem?_cons_succ, List.set_cons_zero, List.set_cons_succ, true_and, and_true, Nat.reduceAdd, Nat.reduceSub, decide_eq_true_eq]
  by_cases hk : z ∈ KL
  · rw [if_pos hk]
    refine ⟨by decide, ?_⟩
    simp only [body, dstart, dSeq, dIf, dAsg, dRet, dRetN, dNext, dDrop, dTest, dAnd, dOr, dNot, dAndV, dOrV, dNotV, dIfE, dOp, dUn, dC, dVar_e, dNil, dCons, dTup, dLst, dCall, dM1, dL1_e, dSl, oNo, oSo, gSet, gUn, gsCons, gsNil, dStI_e, dYes, ex_eq, ex_eq1, ex_bl, ex_str, ex_int, ex_ref, ex_tup, ex_cons, ex_lst1, ex_ins1, ex_ds, split_1, qin_str, qnin_str, append_, add_ii, add_ss, add_tt, sub_ii, mul_ii, mul_si, div_ii, mod_ii, pow_ii, lt_ii, le_ii, gt_ii, ge_ii, neg_i, eq_ii, eq_ss, ne_ii, ne_ss, qix_tup, qix_cl, qix_str, at0, at1, at2, at3, qlen_tup, qlen_cl, qlen_str, toI_i, toI_b, toI_s, toS_i, toS_s, qsl_tup, qsl_cl, qsl_str, List.map_cons, List.map_nil, List.length_cons, List.length_nil, List.replicate, List.cons_append, List.nil_append, List.getElem?_cons_zero, List.getElem?_cons_succ, List.set_cons_zero, List.set_cons_succ, true_and, and_true, Nat.reduceAdd, Nat.reduceSub, decide_eq_true_eq, l1_ ep]
    refine ⟨_, ep, hlw, nx ([113, 113, 113, 113, 113, 113, 113] ++ [c]) ⟨by simp, by simp, ?_, ?_⟩ _ _ _ _ ?_⟩
    · intro d hd
      simp only [List.cons_append, List.nil_append, List.mem_cons, List.not_mem_nil, or_false] at hd
      have : d = 113 ∨ d = c := by omega
      rcases this with rfl | rfl
      · exact ⟨by decide, by decide⟩
      · exact hc
    · intro hq
      simp only [KL, List.cons_append, List.nil_append, List.mem_cons, List.not_mem_nil, or_false, List.cons.injEq] at hq
      omega
    · exact (by
      simp only [hpN, List.map_append, List.map_cons, List.map_nil, List.cons_append, List.nil_append]
      intro a o e2
      have := hle a o
      simp only [hpN, dup] at this e2 ⊢
      grind)
  · rw [if_neg hk]
    simp only [body, dstart, dSeq, dIf, dAsg, dRet, dRetN, dNext, dDrop, dTest, dAnd, dOr, dNot, dAndV, dOrV, dNotV, dIfE, dOp, dUn, dC, dVar_e, dNil, dCons, dTup, dLst, dCall, dM1, dL1_e, dSl, oNo, oSo, gSet, gUn, gsCons, gsNil, dStI_e, dYes, ex_eq, ex_eq1, ex_bl, ex_str, ex_int, ex_ref, ex_tup, ex_cons, ex_lst1, ex_ins1, ex_ds, split_1, qin_str, qnin_str, append_, add_ii, add_ss, add_tt, sub_ii, mul_ii, mul_si, div_ii, mod_ii, pow_ii, lt_ii, le_ii, gt_ii, ge_ii, neg_i, eq_ii, eq_ss, ne_ii, ne_ss, qix_tup, qix_cl, qix_str, at0, at1, at2, at3, qlen_tup, qlen_cl, qlen_str, toI_i, toI_b, toI_s, toS_i, toS_s, qsl_tup, qsl_cl, qsl_str, List.map_cons, List.map_nil, List.length_cons, List.length_nil, List.replicate, List.cons_append, List.nil_append, List.getElem?_cons_zero, List.getElem?_cons_succ, List.set_cons_zero, List.set_cons_succ, true_and, and_true, Nat.reduceAdd, Nat.reduceSub, decide_eq_true_eq, l1_ ep]
    exact ⟨_, ep, hlw, nx z ⟨hz.ne, hz.le, hz.lets, hk⟩ _ _ _ _ (by
      simp only [hpN, List.map_append, List.map_cons, List.map_nil, List.cons_append, List.nil_append]
      intro a o e2
      have := hle a o
      simp only [hpN, dup] at this e2 ⊢
      grind)⟩
theorem joinL0_len {zs : List (List Nat)} (h : ∀ z ∈ zs, ∃ c, isLet c ∧ z = [c]) : (TL.joinL [] zs).length = zs.length ∧ ∀ c ∈ TL.joinL [] zs, isLet c := by
  rw [joinL_flat]; exact flat_one h
theorem names_2 {k : Nat} {w : DW} {b p5 p : Addr} {wide spot fi fo : Int} {v9 v14 : Option D} {c : Nat} {z : List Nat} {h hh : DH} {m : MO} {sg ws : List (List Nat)} {E : DEnds} (hm : BoxM m) (hc : isLet c) (hz : WordW z) (hl : ws.length < 6) (b5 : b ≠ p5) (bp : b ≠ p)
    (hle : Le (hpN h b p5 p m sg ws) hh) (nx : ∀ z, NameW z → ∀ v9 v10 v11 v14 hh' m', BoxM m' → Le (hpN h b p5 p m' sg (ws ++ [z])) hh' → E.nx (stN b wide spot fi fo p5 p v9 v10 v11 v14) hh') :
    tb_l_names_2 (callD (k + 1)) w E (stN b wide spot fi fo p5 p v9 (some (.str [c])) (some (.str z)) v14) hh := by
  have eb : hh b = some m := hle _ _ (by simp only [hpN, dup]; grind)
  simp only [tb_l_names_2, body, dstart, dSeq, dIf, dAsg, dRet, dRetN, dNext, dDrop, dTest, dAnd, dOr, dNot, dAndV, dOrV, dNotV, dIfE, dOp, dUn, dC, dVar_e, dNil, dCons, dTup, dLst, dCall, dM1, dL1_e, dSl, oNo, oSo, gSet, gUn, gsCons, gsNil, dStI_e, dYes, ex_eq, ex_eq1, ex_bl, ex_str, ex_int, ex_ref, ex_tup, ex_cons, ex_lst1, ex_ins1, ex_ds, split_1, qin_str, qnin_str, append_, add_ii, add_ss, add_tt, sub_ii, mul_ii, mul_si, div_ii, mod_ii, pow_ii, lt_ii, le_ii, gt_ii, ge_ii, neg_i, eq_ii, eq_ss, ne_ii, ne_ss, qix_tup, qix_cl, qix_str, at0, at1, at2, at3, qlen_tup, qlen_cl, qlen_str, toI_i, toI_b, toI_s, toS_i, toS_s, qsl_tup, qsl_cl, qsl_str, List.map_cons, List.map_nil, List.length_cons, List.length_nil, List.replicate, List.cons_append, List.nil_append, List.getElem?_cons_zero, List.getElem?_cons_succ, List.set_cons_zero, List.set_cons_succ, true_and, and_true, Nat.reduceAdd, Nat.reduceSub, decide_eq_true_eq]
  by_cases e : fo = 2
  · rw [if_pos e]
    unfold dLc ML.iRng1
    simp only [body, dstart, dSeq, dIf, dAsg, dRet, dRetN, dNext, dDrop, dTest, dAnd, dOr, dNot, dAndV, dOrV, dNotV, dIfE, dOp, dUn, dC, dVar_e, dNil, dCons, dTup, dLst, dCall, dM1, dL1_e, dSl, oNo, oSo, gSet, gUn, gsCons, gsNil, dStI_e, dYes, ex_eq, ex_eq1, ex_bl, ex_str, ex_int, ex_ref, ex_tup, ex_cons, ex_lst1, ex_ins1, ex_ds, split_1, qin_str, qnin_str, append_, add_ii, add_ss, add_tt, sub_ii, mul_ii, mul_si, div_ii, mod_ii, pow_ii, lt_ii, le_ii, gt_ii, ge_ii, neg_i, eq_ii, eq_ss, ne_ii, ne_ss, qix_tup, qix_cl, qix_str, at0, at1, at2, at3, qlen_tup, qlen_cl, qlen_str, toI_i, toI_b, toI_s, toS_i, toS_s, qsl_tup, qsl_cl, qsl_str, List.map_cons, List.map_nil, List.length_cons, List.length_nil, List.replicate, List.cons_append, List.nil_append, List.getElem?_cons_zero, List.getElem?_cons_succ, List.set_cons_zero, List.set_cons_succ, true_and, and_true, Nat.reduceAdd, Nat.reduceSub, decide_eq_true_eq]
    refine take_ok eb hm (by decide) (by decide) fun n m1 h1 n0 n1 => ⟨n, rfl, by omega, by omega, _, .refl _, comp_gen (b := b) (P := OneL) (fun d => take_let ?_ ?_) _ _ _ m1 dup_same h1 ?_ fun ys m2 h2 hy hp p7 hp7 => ?_⟩
    · simp only [dwipe, body, dstart, dSeq, dIf, dAsg, dRet, dRetN, dNext, dDrop, dTest, dAnd, dOr, dNot, dAndV, dOrV, dNotV, dIfE, dOp, dUn, dC, dVar_e, dNil, dCons, dTup, dLst, dCall, dM1, dL1_e, dSl, oNo, oSo, gSet, gUn, gsCons, gsNil, dStI_e, dYes, ex_eq, ex_eq1, ex_bl, ex_str, ex_int, ex_ref, ex_tup, ex_cons, ex_lst1, ex_ins1, ex_ds, split_1, qin_str, qnin_str, append_, add_ii, add_ss, add_tt, sub_ii, mul_ii, mul_si, div_ii, mod_ii, pow_ii, lt_ii, le_ii, gt_ii, ge_ii, neg_i, eq_ii, eq_ss, ne_ii, ne_ss, qix_tup, qix_cl, qix_str, at0, at1, at2, at3, qlen_tup, qlen_cl, qlen_str, toI_i, toI_b, toI_s, toS_i, toS_s, qsl_tup, qsl_cl, qsl_str, List.map_cons, List.map_nil, List.length_cons, List.length_nil, List.replicate, List.cons_append, List.nil_append, List.getElem?_cons_zero, List.getElem?_cons_succ, List.set_cons_zero, List.set_cons_succ, true_and, and_true, Nat.reduceAdd, Nat.reduceSub, decide_eq_true_eq]
    · simp only [dwipe, body, dstart, dSeq, dIf, dAsg, dRet, dRetN, dNext, dDrop, dTest, dAnd, dOr, dNot, dAndV, dOrV, dNotV, dIfE, dOp, dUn, dC, dVar_e, dNil, dCons, dTup, dLst, dCall, dM1, dL1_e, dSl, oNo, oSo, gSet, gUn, gsCons, gsNil, dStI_e, dYes, ex_eq, ex_eq1, ex_bl, ex_str, ex_int, ex_ref, ex_tup, ex_cons, ex_lst1, ex_ins1, ex_ds, split_1, qin_str, qnin_str, append_, add_ii, add_ss, add_tt, sub_ii, mul_ii, mul_si, div_ii, mod_ii, pow_ii, lt_ii, le_ii, gt_ii, ge_ii, neg_i, eq_ii, eq_ss, ne_ii, ne_ss, qix_tup, qix_cl, qix_str, at0, at1, at2, at3, qlen_tup, qlen_cl, qlen_str, toI_i, toI_b, toI_s, toS_i, toS_s, qsl_tup, qsl_cl, qsl_str, List.map_cons, List.map_nil, List.length_cons, List.length_nil, List.replicate, List.cons_append, List.nil_append, List.getElem?_cons_zero, List.getElem?_cons_succ, List.set_cons_zero, List.set_cons_succ, true_and, and_true, Nat.reduceAdd, Nat.reduceSub, decide_eq_true_eq]
    · rw [rngD_len]; simp; unfold sizeLine; omega
    · obtain ⟨zs, _, rfl, g3⟩ := strs_one hp
      rw [List.length_map, rngD_len] at hy
      obtain ⟨j1, j2⟩ := joinL0_len g3
      rw [List.nil_append, join_ref dup_same, sum_one g3]
      simp only [body, dstart, dSeq, dIf, dAsg, dRet, dRetN, dNext, dDrop, dTest, dAnd, dOr, dNot, dAndV, dOrV, dNotV, dIfE, dOp, dUn, dC, dVar_e, dNil, dCons, dTup, dLst, dCall, dM1, dL1_e, dSl, oNo, oSo, gSet, gUn, gsCons, gsNil, dStI_e, dYes, ex_eq, ex_eq1, ex_bl, ex_str, ex_int, ex_ref, ex_tup, ex_cons, ex_lst1, ex_ins1, ex_ds, split_1, qin_str, qnin_str, append_, add_ii, add_ss, add_tt, sub_ii, mul_ii, mul_si, div_ii, mod_ii, pow_ii, lt_ii, le_ii, gt_ii, ge_ii, neg_i, eq_ii, eq_ss, ne_ii, ne_ss, qix_tup, qix_cl, qix_str, at0, at1, at2, at3, qlen_tup, qlen_cl, qlen_str, toI_i, toI_b, toI_s, toS_i, toS_s, qsl_tup, qsl_cl, qsl_str, List.map_cons, List.map_nil, List.length_cons, List.length_nil, List.replicate, List.cons_append, List.nil_append, List.getElem?_cons_zero, List.getElem?_cons_succ, List.set_cons_zero, List.set_cons_succ, true_and, and_true, Nat.reduceAdd, Nat.reduceSub, decide_eq_true_eq]
      refine ⟨by simp; omega, by rw [j1]; unfold sizeLine; omega, ?_⟩
      refine names_1 (h := h) (sg := sg) (ws := ws) (m := m2) h2 hc ⟨by simp, by simp [j1]; omega, ?_⟩ hl ?_ fun z hz v9 v10 v11 hh' l => nx z hz _ _ _ _ hh' m2 h2 l
      · intro d hd
        rcases List.mem_append.mp hd with e | e
        · exact j2 d e
        · rw [List.mem_singleton.mp e]; exact hc
      · rw [dup_dup] at hp7 ⊢
        intro a o e2
        have := hle a o
        simp only [hpN, dup] at this e2 hp7 ⊢
        grind
  · rw [if_neg e]
    exact names_1 hm hc hz hl hle fun z hz v9 v10 v11 hh' l => nx z hz _ _ _ _ hh' m hm l
theorem names_5 {k : Nat} {w : DW} {b p5 p : Addr} {spot fi fo j : Int} {v9 v10 v11 v14 : Option D} {h hh : DH} {m : MO} {sg ws : List (List Nat)} {E : DEnds} (hm : BoxM m) (hl : ws.length < 6) (j0 : 0 ≤ j) (f0 : 0 ≤ fi)
    (e3 : ∀ z ∈ sg, ∃ c, isLet c ∧ z = [c]) (s0 : 0 ≤ spot) (s1 : spot < sg.length) (sl : sg.length ≤ 6) (b5 : b ≠ p5) (bp : b ≠ p) (p5p : p5 ≠ p)
    (hle : Le (hpN h b p5 p m sg ws) hh) (nx : ∀ z, NameW z → ∀ v9 v10 v11 v14 hh' m', BoxM m' → Le (hpN h b p5 p m' sg (ws ++ [z])) hh' → E.nx (stN b sg.length spot fi fo p5 p v9 v10 v11 v14) hh') :
    tb_l_names_5 (callD (k + 1)) w E (stN b sg.length spot fi fo p5 p (some (.int j)) v10 v11 v14) hh := by
  have eb : hh b = some m := hle _ _ (by simp only [hpN, dup]; grind)
  have e5 : hh p5 = some (.lst (sg.map .str)) := hle _ _ (by simp only [hpN, dup]; grind)
  obtain ⟨sn, rfl⟩ := Int.eq_ofNat_of_zero_le s0
  obtain ⟨c, ec, hc⟩ := at_LT (i := (fi + 5 * j) % 26) (Int.emod_nonneg _ (by decide)) (Int.emod_lt_of_pos _ (by decide))
  have tk1 : ∀ z ∈ sg.take sn, ∃ c, isLet c ∧ z = [c] := fun z hz => e3 z (List.mem_of_mem_take hz)
  have dr1 : ∀ z ∈ sg.drop (sn + 1), ∃ c, isLet c ∧ z = [c] := fun z hz => e3 z (List.mem_of_mem_drop hz)
  obtain ⟨l1, g1⟩ := flat_one tk1
  obtain ⟨l2, g2⟩ := flat_one dr1
  have n1 : (sg.take sn).length ≤ 6 := by rw [List.length_take]; omega
  have n2 : (sg.take sn).length + (sg.drop (sn + 1)).length + 1 = sg.length := by rw [List.length_take, List.length_drop]; omega
  simp only [tb_l_names_5, tb_l_names_4, body, dstart, dSeq, dIf, dAsg, dRet, dRetN, dNext, dDrop, dTest, dAnd, dOr, dNot, dAndV, dOrV, dNotV, dIfE, dOp, dUn, dC, dVar_e, dNil, dCons, dTup, dLst, dCall, dM1, dL1_e, dSl, oNo, oSo, gSet, gUn, gsCons, gsNil, dStI_e, dYes, ex_eq, ex_eq1, ex_bl, ex_str, ex_int, ex_ref, ex_tup, ex_cons, ex_lst1, ex_ins1, ex_ds, split_1, qin_str, qnin_str, append_, add_ii, add_ss, add_tt, sub_ii, mul_ii, mul_si, div_ii, mod_ii, pow_ii, lt_ii, le_ii, gt_ii, ge_ii, neg_i, eq_ii, eq_ss, ne_ii, ne_ss, qix_tup, qix_cl, qix_str, at0, at1, at2, at3, qlen_tup, qlen_cl, qlen_str, toI_i, toI_b, toI_s, toS_i, toS_s, qsl_tup, qsl_cl, qsl_str, List.map_cons, List.map_nil, List.length_cons, List.length_nil, List.replicate, List.cons_append, List.nil_append, List.getElem?_cons_zero, List.getElem?_cons_succ, List.set_cons_zero, List.set_cons_succ, true_and, and_true, Nat.reduceAdd, Nat.reduceSub, decide_eq_true_eq, ec]
  refine ⟨cmul_l (by decide) (by decide), by decide, by decide, ?_⟩
  simp only [qsl_ref e5]
  intro p6 hp6
  have e56 : dup hh p6 (.lst ((cutD sg none (some (sn : Int))).map .str)) p5 = some (.lst (sg.map .str)) := by rw [dup_ne (free_ne e5 hp6)]; exact e5
  have c1 : (sn : Int) + 1 = ((sn + 1 : Nat) : Int) := by omega
  rw [cut_map, join_ref dup_same]
  simp only [body, dstart, dSeq, dIf, dAsg, dRet, dRetN, dNext, dDrop, dTest, dAnd, dOr, dNot, dAndV, dOrV, dNotV, dIfE, dOp, dUn, dC, dVar_e, dNil, dCons, dTup, dLst, dCall, dM1, dL1_e, dSl, oNo, oSo, gSet, gUn, gsCons, gsNil, dStI_e, dYes, ex_eq, ex_eq1, ex_bl, ex_str, ex_int, ex_ref, ex_tup, ex_cons, ex_lst1, ex_ins1, ex_ds, split_1, qin_str, qnin_str, append_, add_ii, add_ss, add_tt, sub_ii, mul_ii, mul_si, div_ii, mod_ii, pow_ii, lt_ii, le_ii, gt_ii, ge_ii, neg_i, eq_ii, eq_ss, ne_ii, ne_ss, qix_tup, qix_cl, qix_str, at0, at1, at2, at3, qlen_tup, qlen_cl, qlen_str, toI_i, toI_b, toI_s, toS_i, toS_s, qsl_tup, qsl_cl, qsl_str, List.map_cons, List.map_nil, List.length_cons, List.length_nil, List.replicate, List.cons_append, List.nil_append, List.getElem?_cons_zero, List.getElem?_cons_succ, List.set_cons_zero, List.set_cons_succ, true_and, and_true, Nat.reduceAdd, Nat.reduceSub, decide_eq_true_eq, qsl_ref e56]
  rw [cut_take] at *
  obtain ⟨j1, j2⟩ := joinL0_len tk1
  obtain ⟨j3, j4⟩ := joinL0_len dr1
  refine ⟨by rw [sum_one tk1]; omega, by rw [j1]; unfold sizeLine; omega, fun p7 hp7 => ?_⟩
  rw [cut_map, c1, cut_drop, join_ref dup_same]
  simp only [body, dstart, dSeq, dIf, dAsg, dRet, dRetN, dNext, dDrop, dTest, dAnd, dOr, dNot, dAndV, dOrV, dNotV, dIfE, dOp, dUn, dC, dVar_e, dNil, dCons, dTup, dLst, dCall, dM1, dL1_e, dSl, oNo, oSo, gSet, gUn, gsCons, gsNil, dStI_e, dYes, ex_eq, ex_eq1, ex_bl, ex_str, ex_int, ex_ref, ex_tup, ex_cons, ex_lst1, ex_ins1, ex_ds, split_1, qin_str, qnin_str, append_, add_ii, add_ss, add_tt, sub_ii, mul_ii, mul_si, div_ii, mod_ii, pow_ii, lt_ii, le_ii, gt_ii, ge_ii, neg_i, eq_ii, eq_ss, ne_ii, ne_ss, qix_tup, qix_cl, qix_str, at0, at1, at2, at3, qlen_tup, qlen_cl, qlen_str, toI_i, toI_b, toI_s, toS_i, toS_s, qsl_tup, qsl_cl, qsl_str, List.map_cons, List.map_nil, List.length_cons, List.length_nil, List.replicate, List.cons_append, List.nil_append, List.getElem?_cons_zero, List.getElem?_cons_succ, List.set_cons_zero, List.set_cons_succ, true_and, and_true, Nat.reduceAdd, Nat.reduceSub, decide_eq_true_eq]
  refine ⟨by rw [sum_one dr1]; omega, by simp only [List.length_append, j1, j3, List.length_cons, List.length_nil]; unfold sizeLine; omega, ?_⟩
  have wl : ∀ d ∈ TL.joinL [] (sg.take sn) ++ [c] ++ TL.joinL [] (sg.drop (sn + 1)), isLet d := by
    intro d hd
    rcases List.mem_append.mp hd with e | e
    · rcases List.mem_append.mp e with e | e
      · exact j2 d e
      · rw [List.mem_singleton.mp e]; exact hc
    · exact j4 d e
  have wn : (TL.joinL [] (sg.take sn) ++ [c] ++ TL.joinL [] (sg.drop (sn + 1))).length = sg.length := by simp only [List.length_append, j1, j3, List.length_cons, List.length_nil]; omega
  generalize TL.joinL [] (sg.take sn) ++ [c] ++ TL.joinL [] (sg.drop (sn + 1)) = z at *
  have hle2 : Le (hpN h b p5 p m sg ws) (dup (dup hh p6 (.lst ((sg.take sn).map .str))) p7 (.lst ((sg.drop (sn + 1)).map .str))) := by
    intro a o e2
    have := hle a o e2
    simp only [dup] at hp6 hp7 ⊢
    grind
  have zne : z ≠ [] := fun e => by subst e; simp at wn; omega
  simp only [tb_l_names_3, body, dstart, dSeq, dIf, dAsg, dRet, dRetN, dNext, dDrop, dTest, dAnd, dOr, dNot, dAndV, dOrV, dNotV, dIfE, dOp, dUn, dC, dVar_e, dNil, dCons, dTup, dLst, dCall, dM1, dL1_e, dSl, oNo, oSo, gSet, gUn, gsCons, gsNil, dStI_e, dYes, ex_eq, ex_eq1, ex_bl, ex_str, ex_int, ex_ref, ex_tup, ex_cons, ex_lst1, ex_ins1, ex_ds, split_1, qin_str, qnin_str, append_, add_ii, add_ss, add_tt, sub_ii, mul_ii, mul_si, div_ii, mod_ii, pow_ii, lt_ii, le_ii, gt_ii, ge_ii, neg_i, eq_ii, eq_ss, ne_ii, ne_ss, qix_tup, qix_cl, qix_str, at0, at1, at2, at3, qlen_tup, qlen_cl, qlen_str, toI_i, toI_b, toI_s, toS_i, toS_s, qsl_tup, qsl_cl, qsl_str, List.map_cons, List.map_nil, List.length_cons, List.length_nil, List.replicate, List.cons_append, List.nil_append, List.getElem?_cons_zero, List.getElem?_cons_succ, List.set_cons_zero, List.set_cons_succ, true_and, and_true, Nat.reduceAdd, Nat.reduceSub, decide_eq_true_eq]
  by_cases q1 : fo = 1
  · rw [if_pos q1]
    refine ⟨by decide, ?_⟩
    by_cases q2 : j % 2 = 1
    · rw [if_pos q2]
      refine ⟨by unfold sizeLine; omega, names_2 hm hc ⟨by simp, by simp only [List.length_append, List.length_cons, List.length_nil]; omega, ?_⟩ hl b5 bp hle2 nx⟩
      intro d hd
      rcases List.mem_append.mp hd with e | e
      · exact wl d e
      · rw [List.mem_singleton.mp e]; exact ⟨by decide, by decide⟩
    · rw [if_neg q2]
      exact names_2 hm hc ⟨zne, by omega, wl⟩ hl b5 bp hle2 nx
  · rw [if_neg q1]
    exact names_2 hm hc ⟨zne, by omega, wl⟩ hl b5 bp hle2 nx
def ODD : List (List Nat) := [[110, 117, 109], [118, 97, 114], [111, 112], [103, 111], [97, 115, 107], [98, 97, 99, 107], [99, 104, 97, 105, 110], [115, 101, 116, 115], [105, 102, 102], [101, 110, 100, 115], [99, 97, 108, 108, 115], [114, 101, 97, 100, 115], [103, 105, 118, 101, 115]]
instance (c : Nat) : Decidable (isLet c) := by unfold isLet; exact inferInstance
theorem odd_ok : ∀ z ∈ ODD, NameW z := by
  have : ∀ z ∈ ODD, z ≠ [] ∧ z.length ≤ 8 ∧ (∀ c ∈ z, isLet c) ∧ z ∉ KL := by decide
  exact fun z hz => ⟨(this z hz).1, (this z hz).2.1, (this z hz).2.2.1, (this z hz).2.2.2⟩
theorem at_map {α : Type} {f : α → D} {xs : List α} {i : Int} (h0 : 0 ≤ i) (h1 : i < xs.length) : ∃ x ∈ xs, atI (xs.map f) i = some (f x) := by
  obtain ⟨n, rfl⟩ := Int.eq_ofNat_of_zero_le h0
  have hn : n < xs.length := by omega
  exact ⟨xs[n], List.getElem_mem hn, atI_nat (by rw [List.getElem?_map, List.getElem?_eq_getElem hn]; rfl)⟩
theorem ixN_nat {n i : Nat} (h : i < n) : ixN n (i : Int) = some i := by
  unfold ixN; rw [if_pos (by omega), if_pos (by omega)]; simp
theorem names_8 {k : Nat} {w : DW} {b p5 p : Addr} {wide spot fi fo : Int} {v9 v10 v11 v14 : Option D} {h hh : DH} {m : MO} {sg ws : List (List Nat)} {E : DEnds} {q : DQ} (hm : BoxM m) (hl : ws.length = 6) (hw : ∀ w ∈ ws, NameW w) (b5 : b ≠ p5) (bp : b ≠ p) (p5p : p5 ≠ p) (g5 : h p5 = none)
    (hle : Le (hpN h b p5 p m sg ws) hh) (z : ∀ m' (ws : List (List Nat)), BoxM m' → ws.length = 6 → (∀ w ∈ ws, NameW w) → q (.ref p) (dup (dup h b m') p (.lst (ws.map .str)))) (he : E.rt = wkQ q) :
    tb_l_names_8 (callD (k + 1)) w E (stN b wide spot fi fo p5 p v9 v10 v11 v14) hh := by
  have eb : hh b = some m := hle _ _ (by simp only [hpN, dup]; grind)
  have ep : hh p = some (.lst (ws.map .str)) := hle _ _ dup_same
  simp only [tb_l_names_8, tb_l_names_7, tb_l_names_6, body, dstart, dSeq, dIf, dAsg, dRet, dRetN, dNext, dDrop, dTest, dAnd, dOr, dNot, dAndV, dOrV, dNotV, dIfE, dOp, dUn, dC, dVar_e, dNil, dCons, dTup, dLst, dCall, dM1, dL1_e, dSl, oNo, oSo, gSet, gUn, gsCons, gsNil, dStI_e, dYes, ex_eq, ex_eq1, ex_bl, ex_str, ex_int, ex_ref, ex_tup, ex_cons, ex_lst1, ex_ins1, ex_ds, split_1, qin_str, qnin_str, append_, add_ii, add_ss, add_tt, sub_ii, mul_ii, mul_si, div_ii, mod_ii, pow_ii, lt_ii, le_ii, gt_ii, ge_ii, neg_i, eq_ii, eq_ss, ne_ii, ne_ss, qix_tup, qix_cl, qix_str, at0, at1, at2, at3, qlen_tup, qlen_cl, qlen_str, toI_i, toI_b, toI_s, toS_i, toS_s, qsl_tup, qsl_cl, qsl_str, List.map_cons, List.map_nil, List.length_cons, List.length_nil, List.replicate, List.cons_append, List.nil_append, List.getElem?_cons_zero, List.getElem?_cons_succ, List.set_cons_zero, List.set_cons_succ, true_and, and_true, Nat.reduceAdd, Nat.reduceSub, decide_eq_true_eq, he]
  refine take_ok eb hm (by decide) (by decide) fun r m1 h1 r0 r1 => ?_
  simp only [body, dstart, dSeq, dIf, dAsg, dRet, dRetN, dNext, dDrop, dTest, dAnd, dOr, dNot, dAndV, dOrV, dNotV, dIfE, dOp, dUn, dC, dVar_e, dNil, dCons, dTup, dLst, dCall, dM1, dL1_e, dSl, oNo, oSo, gSet, gUn, gsCons, gsNil, dStI_e, dYes, ex_eq, ex_eq1, ex_bl, ex_str, ex_int, ex_ref, ex_tup, ex_cons, ex_lst1, ex_ins1, ex_ds, split_1, qin_str, qnin_str, append_, add_ii, add_ss, add_tt, sub_ii, mul_ii, mul_si, div_ii, mod_ii, pow_ii, lt_ii, le_ii, gt_ii, ge_ii, neg_i, eq_ii, eq_ss, ne_ii, ne_ss, qix_tup, qix_cl, qix_str, at0, at1, at2, at3, qlen_tup, qlen_cl, qlen_str, toI_i, toI_b, toI_s, toS_i, toS_s, qsl_tup, qsl_cl, qsl_str, List.map_cons, List.map_nil, List.length_cons, List.length_nil, List.replicate, List.cons_append, List.nil_append, List.getElem?_cons_zero, List.getElem?_cons_succ, List.set_cons_zero, List.set_cons_succ, true_and, and_true, Nat.reduceAdd, Nat.reduceSub, decide_eq_true_eq]
  have fin : ∀ m' (ws' : List (List Nat)) hh', BoxM m' → ws'.length = 6 → (∀ w ∈ ws', NameW w) → Le (dup (dup h b m') p (.lst (ws'.map .str))) hh' → wkQ q (.ref p) hh' := fun m' ws' hh' h1 h2 h3 l => wkq l (z m' ws' h1 h2 h3)
  by_cases e : r = 0
  · rw [if_pos e]
    refine ⟨by decide, fun p8 hp8 => take_ok (by rw [dup_ne (free_ne (h := dup hh b m1) dup_same hp8)]; exact dup_same) h1 (by decide) (by decide) fun r2 m2 h2 r20 r21 => ?_⟩
    have eo : ([D.str [110, 117, 109], D.str [118, 97, 114], D.str [111, 112], D.str [103, 111], D.str [97, 115, 107], D.str [98, 97, 99, 107], D.str [99, 104, 97, 105, 110], D.str [115, 101, 116, 115], D.str [105, 102, 102], D.str [101, 110, 100, 115], D.str [99, 97, 108, 108, 115], D.str [114, 101, 97, 100, 115], D.str [103, 105, 118, 101, 115]] : List D) = ODD.map D.str := rfl
    have b8 : b ≠ p8 := by simp only [dup] at hp8; grind
    have pp8 : p ≠ p8 := by simp only [dup] at hp8; grind
    rw [eo, qix_ref (show dup (dup (dup hh b m1) p8 (.lst (ODD.map D.str))) b m2 p8 = some (.lst (ODD.map D.str)) by simp only [dup]; grind)]
    obtain ⟨od, hod, eod⟩ := at_map (f := D.str) (xs := ODD) r20 r21
    refine ⟨_, eod, ?_⟩
    refine nin_refS (ys := ws) (by simp only [dup]; grind) ?_
    simp only [body, dstart, dSeq, dIf, dAsg, dRet, dRetN, dNext, dDrop, dTest, dAnd, dOr, dNot, dAndV, dOrV, dNotV, dIfE, dOp, dUn, dC, dVar_e, dNil, dCons, dTup, dLst, dCall, dM1, dL1_e, dSl, oNo, oSo, gSet, gUn, gsCons, gsNil, dStI_e, dYes, ex_eq, ex_eq1, ex_bl, ex_str, ex_int, ex_ref, ex_tup, ex_cons, ex_lst1, ex_ins1, ex_ds, split_1, qin_str, qnin_str, append_, add_ii, add_ss, add_tt, sub_ii, mul_ii, mul_si, div_ii, mod_ii, pow_ii, lt_ii, le_ii, gt_ii, ge_ii, neg_i, eq_ii, eq_ss, ne_ii, ne_ss, qix_tup, qix_cl, qix_str, at0, at1, at2, at3, qlen_tup, qlen_cl, qlen_str, toI_i, toI_b, toI_s, toS_i, toS_s, qsl_tup, qsl_cl, qsl_str, List.map_cons, List.map_nil, List.length_cons, List.length_nil, List.replicate, List.cons_append, List.nil_append, List.getElem?_cons_zero, List.getElem?_cons_succ, List.set_cons_zero, List.set_cons_succ, true_and, and_true, Nat.reduceAdd, Nat.reduceSub, decide_eq_true_eq]
    have fw : h p = none ∨ True := .inr trivial
    by_cases hi : od ∈ ws
    · rw [show decide (od ∈ ws) = true from decide_eq_true hi]
      simp only [Bool.not_true, Bool.false_eq_true, if_false]
      refine fin m2 ws _ h2 hl hw ?_
      intro a o e2
      have := hle a o
      simp only [hpN, dup] at this e2 hp8 ⊢
      grind
    · rw [show decide (od ∈ ws) = false from decide_eq_false hi]
      simp only [Bool.not_false, if_true]
      refine take_ok (by simp only [dup]; grind) h2 (by decide) (by decide) fun r3 m3 h3 r30 r31 => ?_
      obtain ⟨n, rfl⟩ := Int.eq_ofNat_of_zero_le r30
      rw [stI_ (xs := ws.map .str) (j := n) (by simp only [dup]; grind) (ixN_nat (by rw [List.length_map]; omega))]
      simp only [body, dstart, dSeq, dIf, dAsg, dRet, dRetN, dNext, dDrop, dTest, dAnd, dOr, dNot, dAndV, dOrV, dNotV, dIfE, dOp, dUn, dC, dVar_e, dNil, dCons, dTup, dLst, dCall, dM1, dL1_e, dSl, oNo, oSo, gSet, gUn, gsCons, gsNil, dStI_e, dYes, ex_eq, ex_eq1, ex_bl, ex_str, ex_int, ex_ref, ex_tup, ex_cons, ex_lst1, ex_ins1, ex_ds, split_1, qin_str, qnin_str, append_, add_ii, add_ss, add_tt, sub_ii, mul_ii, mul_si, div_ii, mod_ii, pow_ii, lt_ii, le_ii, gt_ii, ge_ii, neg_i, eq_ii, eq_ss, ne_ii, ne_ss, qix_tup, qix_cl, qix_str, at0, at1, at2, at3, qlen_tup, qlen_cl, qlen_str, toI_i, toI_b, toI_s, toS_i, toS_s, qsl_tup, qsl_cl, qsl_str, List.map_cons, List.map_nil, List.length_cons, List.length_nil, List.replicate, List.cons_append, List.nil_append, List.getElem?_cons_zero, List.getElem?_cons_succ, List.set_cons_zero, List.set_cons_succ, true_and, and_true, Nat.reduceAdd, Nat.reduceSub, decide_eq_true_eq, he]
      refine fin m3 (ws.set n od) _ h3 (by rw [List.length_set]; exact hl) (fun w hw2 => ?_) ?_
      · rcases List.mem_or_eq_of_mem_set hw2 with e | e
        · exact hw w e
        · rw [e]; exact odd_ok od hod
      · rw [List.map_set]
        intro a o e2
        have := hle a o
        simp only [hpN, dup] at this e2 hp8 ⊢
        grind
  · rw [if_neg e]
    refine fin m1 ws _ h1 hl hw ?_
    intro a o e2
    have := hle a o
    simp only [hpN, dup] at this e2 ⊢
    grind
theorem names_ok {k : Nat} {b : Addr} {h : DH} {m : MO} {q : DQ} {x : DX} (hb : h b = some m) (hm : BoxM m)
    (z : ∀ m' p (ws : List (List Nat)), BoxM m' → h p = none → ws.length = 6 → (∀ w ∈ ws, NameW w) → q (.ref p) (dup (dup h b m') p (.lst (ws.map .str)))) : (callD (k + 2)).l_names [.ref b, .int 6] h q x := by
  rw [cd_l_names]; simp only [tb_l_names, tb_l_names_15, tb_l_names_14, tb_l_names_13, tb_l_names_12, tb_l_names_11, tb_l_names_10, tb_l_names_9, body, dstart, dSeq, dIf, dAsg, dRet, dRetN, dNext, dDrop, dTest, dAnd, dOr, dNot, dAndV, dOrV, dNotV, dIfE, dOp, dUn, dC, dVar_e, dNil, dCons, dTup, dLst, dCall, dM1, dL1_e, dSl, oNo, oSo, gSet, gUn, gsCons, gsNil, dStI_e, dYes, ex_eq, ex_eq1, ex_bl, ex_str, ex_int, ex_ref, ex_tup, ex_cons, ex_lst1, ex_ins1, ex_ds, split_1, qin_str, qnin_str, append_, add_ii, add_ss, add_tt, sub_ii, mul_ii, mul_si, div_ii, mod_ii, pow_ii, lt_ii, le_ii, gt_ii, ge_ii, neg_i, eq_ii, eq_ss, ne_ii, ne_ss, qix_tup, qix_cl, qix_str, at0, at1, at2, at3, qlen_tup, qlen_cl, qlen_str, toI_i, toI_b, toI_s, toS_i, toS_s, qsl_tup, qsl_cl, qsl_str, List.map_cons, List.map_nil, List.length_cons, List.length_nil, List.replicate, List.cons_append, List.nil_append, List.getElem?_cons_zero, List.getElem?_cons_succ, List.set_cons_zero, List.set_cons_succ, true_and, and_true, Nat.reduceAdd, Nat.reduceSub, decide_eq_true_eq]
  rw [show ([97, 98, 99, 100, 101, 102, 103, 104, 105, 106, 107, 108, 109, 110, 111, 112, 113, 114, 115, 116, 117, 118, 119, 120, 121, 122] : List Nat) = LT from rfl]
  refine take_ok hb hm (by decide) (by decide) fun r m1 h1 r0 r1 => ?_
  simp only [body, dstart, dSeq, dIf, dAsg, dRet, dRetN, dNext, dDrop, dTest, dAnd, dOr, dNot, dAndV, dOrV, dNotV, dIfE, dOp, dUn, dC, dVar_e, dNil, dCons, dTup, dLst, dCall, dM1, dL1_e, dSl, oNo, oSo, gSet, gUn, gsCons, gsNil, dStI_e, dYes, ex_eq, ex_eq1, ex_bl, ex_str, ex_int, ex_ref, ex_tup, ex_cons, ex_lst1, ex_ins1, ex_ds, split_1, qin_str, qnin_str, append_, add_ii, add_ss, add_tt, sub_ii, mul_ii, mul_si, div_ii, mod_ii, pow_ii, lt_ii, le_ii, gt_ii, ge_ii, neg_i, eq_ii, eq_ss, ne_ii, ne_ss, qix_tup, qix_cl, qix_str, at0, at1, at2, at3, qlen_tup, qlen_cl, qlen_str, toI_i, toI_b, toI_s, toS_i, toS_s, qsl_tup, qsl_cl, qsl_str, List.map_cons, List.map_nil, List.length_cons, List.length_nil, List.replicate, List.cons_append, List.nil_append, List.getElem?_cons_zero, List.getElem?_cons_succ, List.set_cons_zero, List.set_cons_succ, true_and, and_true, Nat.reduceAdd, Nat.reduceSub, decide_eq_true_eq]
  refine take_ok dup_same h1 (by omega) (by omega) fun spot m2 h2 s0 s1 => ?_
  rw [dup_dup]
  refine lc_gen (b := b) (P := OneL) (n := 1 + r) (fun r => by simp only [body, dstart, dSeq, dIf, dAsg, dRet, dRetN, dNext, dDrop, dTest, dAnd, dOr, dNot, dAndV, dOrV, dNotV, dIfE, dOp, dUn, dC, dVar_e, dNil, dCons, dTup, dLst, dCall, dM1, dL1_e, dSl, oNo, oSo, gSet, gUn, gsCons, gsNil, dStI_e, dYes, ex_eq, ex_eq1, ex_bl, ex_str, ex_int, ex_ref, ex_tup, ex_cons, ex_lst1, ex_ins1, ex_ds, split_1, qin_str, qnin_str, append_, add_ii, add_ss, add_tt, sub_ii, mul_ii, mul_si, div_ii, mod_ii, pow_ii, lt_ii, le_ii, gt_ii, ge_ii, neg_i, eq_ii, eq_ss, ne_ii, ne_ss, qix_tup, qix_cl, qix_str, at0, at1, at2, at3, qlen_tup, qlen_cl, qlen_str, toI_i, toI_b, toI_s, toS_i, toS_s, qsl_tup, qsl_cl, qsl_str, List.map_cons, List.map_nil, List.length_cons, List.length_nil, List.replicate, List.cons_append, List.nil_append, List.getElem?_cons_zero, List.getElem?_cons_succ, List.set_cons_zero, List.set_cons_succ, true_and, and_true, Nat.reduceAdd, Nat.reduceSub, decide_eq_true_eq]) (by omega) (by omega) dup_same h2 (fun d => take_let (by simp only [body, dstart, dSeq, dIf, dAsg, dRet, dRetN, dNext, dDrop, dTest, dAnd, dOr, dNot, dAndV, dOrV, dNotV, dIfE, dOp, dUn, dC, dVar_e, dNil, dCons, dTup, dLst, dCall, dM1, dL1_e, dSl, oNo, oSo, gSet, gUn, gsCons, gsNil, dStI_e, dYes, ex_eq, ex_eq1, ex_bl, ex_str, ex_int, ex_ref, ex_tup, ex_cons, ex_lst1, ex_ins1, ex_ds, split_1, qin_str, qnin_str, append_, add_ii, add_ss, add_tt, sub_ii, mul_ii, mul_si, div_ii, mod_ii, pow_ii, lt_ii, le_ii, gt_ii, ge_ii, neg_i, eq_ii, eq_ss, ne_ii, ne_ss, qix_tup, qix_cl, qix_str, at0, at1, at2, at3, qlen_tup, qlen_cl, qlen_str, toI_i, toI_b, toI_s, toS_i, toS_s, qsl_tup, qsl_cl, qsl_str, List.map_cons, List.map_nil, List.length_cons, List.length_nil, List.replicate, List.cons_append, List.nil_append, List.getElem?_cons_zero, List.getElem?_cons_succ, List.set_cons_zero, List.set_cons_succ, true_and, and_true, Nat.reduceAdd, Nat.reduceSub, decide_eq_true_eq]) (by simp only [body, dstart, dSeq, dIf, dAsg, dRet, dRetN, dNext, dDrop, dTest, dAnd, dOr, dNot, dAndV, dOrV, dNotV, dIfE, dOp, dUn, dC, dVar_e, dNil, dCons, dTup, dLst, dCall, dM1, dL1_e, dSl, oNo, oSo, gSet, gUn, gsCons, gsNil, dStI_e, dYes, ex_eq, ex_eq1, ex_bl, ex_str, ex_int, ex_ref, ex_tup, ex_cons, ex_lst1, ex_ins1, ex_ds, split_1, qin_str, qnin_str, append_, add_ii, add_ss, add_tt, sub_ii, mul_ii, mul_si, div_ii, mod_ii, pow_ii, lt_ii, le_ii, gt_ii, ge_ii, neg_i, eq_ii, eq_ss, ne_ii, ne_ss, qix_tup, qix_cl, qix_str, at0, at1, at2, at3, qlen_tup, qlen_cl, qlen_str, toI_i, toI_b, toI_s, toS_i, toS_s, qsl_tup, qsl_cl, qsl_str, List.map_cons, List.map_nil, List.length_cons, List.length_nil, List.replicate, List.cons_append, List.nil_append, List.getElem?_cons_zero, List.getElem?_cons_succ, List.set_cons_zero, List.set_cons_succ, true_and, and_true, Nat.reduceAdd, Nat.reduceSub, decide_eq_true_eq])) fun ys m3 p5 h3 hp5 hl hys => ?_
  obtain ⟨sg, e1, rfl, e3⟩ := strs_one hys
  rw [List.length_map] at hl
  obtain rfl : r = (sg.length : Int) - 1 := by omega
  rw [dup_dup]
  have b5 : b ≠ p5 := by simp only [dup] at hp5; grind
  have g5 : h p5 = none := by simp only [dup] at hp5; grind
  refine take_ok (by rw [dup_ne b5]; exact dup_same) h3 (by decide) (by decide) fun fi m4 h4 f0 f1 => ?_
  refine take_ok dup_same h4 (by decide) (by decide) fun fo m6 h6 fo0 fo1 => ?_
  refine ⟨Nat.zero_le _, fun p hp => ?_⟩
  have bp : b ≠ p := by simp only [dup] at hp; grind
  have p5p : p5 ≠ p := by simp only [dup] at hp; grind
  have gp : h p = none := by simp only [dup] at hp; grind
  rw [dup_dup, dup_comm (Ne.symm b5), dup_dup]
  simp only [dFor, ML.iRng1, body, dstart, dSeq, dIf, dAsg, dRet, dRetN, dNext, dDrop, dTest, dAnd, dOr, dNot, dAndV, dOrV, dNotV, dIfE, dOp, dUn, dC, dVar_e, dNil, dCons, dTup, dLst, dCall, dM1, dL1_e, dSl, oNo, oSo, gSet, gUn, gsCons, gsNil, dStI_e, dYes, ex_eq, ex_eq1, ex_bl, ex_str, ex_int, ex_ref, ex_tup, ex_cons, ex_lst1, ex_ins1, ex_ds, split_1, qin_str, qnin_str, append_, add_ii, add_ss, add_tt, sub_ii, mul_ii, mul_si, div_ii, mod_ii, pow_ii, lt_ii, le_ii, gt_ii, ge_ii, neg_i, eq_ii, eq_ss, ne_ii, ne_ss, qix_tup, qix_cl, qix_str, at0, at1, at2, at3, qlen_tup, qlen_cl, qlen_str, toI_i, toI_b, toI_s, toS_i, toS_s, qsl_tup, qsl_cl, qsl_str, List.map_cons, List.map_nil, List.length_cons, List.length_nil, List.replicate, List.cons_append, List.nil_append, List.getElem?_cons_zero, List.getElem?_cons_succ, List.set_cons_zero, List.set_cons_succ, true_and, and_true, Nat.reduceAdd, Nat.reduceSub, decide_eq_true_eq]
  rw [show (1 : Int) + (sg.length - 1) = sg.length by omega]
  refine ⟨by decide, by decide, wk0 (for_ind (fun rem s hh => ∃ (m' : MO) (ws : List (List Nat)) (v9 v10 v11 v14 : Option D), BoxM m' ∧ Le (hpN h b p5 p m' sg ws) hh ∧ ws.length + rem.length = 6 ∧ (∀ w ∈ ws, NameW w) ∧ (∀ y ∈ rem, ∃ j : Int, y = .int j ∧ 0 ≤ j) ∧
    s = stN b sg.length spot fi fo p5 p v9 v10 v11 v14) ?_ ?_ _ _ _ ⟨m6, [], none, none, none, none, h6, .refl _, rfl, by simp, ?_, rfl⟩)⟩
  · rintro s hh ⟨m', ws, v9, v10, v11, v14, hm', hle, hl, hw, _, rfl⟩
    exact ⟨trivial, names_8 hm' (by simpa using hl) hw b5 bp p5p g5 hle (fun m' ws h1 h2 h3 => z m' p ws h1 gp h2 h3) rfl⟩
  · rintro y rem s hh ⟨m', ws, v9, v10, v11, v14, hm', hle, hl2, hw, hj, rfl⟩
    obtain ⟨j, rfl, j0⟩ := hj y (List.mem_cons_self ..)
    refine ⟨trivial, fun F hF => ?_⟩
    simp only [gSet, body, dstart, dSeq, dIf, dAsg, dRet, dRetN, dNext, dDrop, dTest, dAnd, dOr, dNot, dAndV, dOrV, dNotV, dIfE, dOp, dUn, dC, dVar_e, dNil, dCons, dTup, dLst, dCall, dM1, dL1_e, dSl, oNo, oSo, gSet, gUn, gsCons, gsNil, dStI_e, dYes, ex_eq, ex_eq1, ex_bl, ex_str, ex_int, ex_ref, ex_tup, ex_cons, ex_lst1, ex_ins1, ex_ds, split_1, qin_str, qnin_str, append_, add_ii, add_ss, add_tt, sub_ii, mul_ii, mul_si, div_ii, mod_ii, pow_ii, lt_ii, le_ii, gt_ii, ge_ii, neg_i, eq_ii, eq_ss, ne_ii, ne_ss, qix_tup, qix_cl, qix_str, at0, at1, at2, at3, qlen_tup, qlen_cl, qlen_str, toI_i, toI_b, toI_s, toS_i, toS_s, qsl_tup, qsl_cl, qsl_str, List.map_cons, List.map_nil, List.length_cons, List.length_nil, List.replicate, List.cons_append, List.nil_append, List.getElem?_cons_zero, List.getElem?_cons_succ, List.set_cons_zero, List.set_cons_succ, true_and, and_true, Nat.reduceAdd, Nat.reduceSub, decide_eq_true_eq]
    refine names_5 (v9 := none) hm' (by simp at hl2; omega) j0 f0 e3 s0 (by omega) (by omega) b5 bp p5p hle fun z hz v9 v10 v11 v14 hh' m2 hm2 hle2 => hF _ _ _ _ ⟨rfl, fun _ _ e => e⟩ (.refl _) ⟨m2, ws ++ [z], v9, v10, v11, v14, hm2, hle2, ?_, ?_, ?_, rfl⟩
    · simp at hl2 ⊢; omega
    · intro w hw2
      rcases List.mem_append.mp hw2 with e | e
      · exact hw w e
      · rw [List.mem_singleton.mp e]; exact hz
    · exact fun y hy => hj y (List.mem_cons_of_mem _ hy)
  · intro y hy
    unfold rngD at hy
    obtain ⟨i, _, rfl⟩ := List.mem_map.mp hy
    exact ⟨_, rfl, by omega⟩
end k60

set_option Elab.async false
set_option linter.all false
set_option maxRecDepth 100000
set_option maxHeartbeats 1000000
namespace k60
open PySem PySem.Spec PyProof.Rows L2 ML
/-! ### chains -/
abbrev Row : Type := Nat × List (List Nat)
def wCHAIN : List Nat := [99, 104, 97, 105, 110]
def wBACK : List Nat := [98, 97, 99, 107]
def wREAD : List Nat := [114, 101, 97, 100]
def wWRITE : List Nat := [119, 114, 105, 116, 101]
def wASK : List Nat := [97, 115, 107]
def wCALL : List Nat := [99, 97, 108, 108]
def nts (xs : List Nat) : List D := xs.map fun (n : Nat) => D.int (n : Int)
def Nums (xs : List Nat) : Prop := xs.length ≤ 3 ∧ ∀ a ∈ xs, a < 10 ^ 18
def Leaf (w : D) (ws : List (List Nat)) : Prop := (∃ a b : Nat, a < 10 ^ 18 ∧ b < 10 ^ 18 ∧ w = .tup [.str wREAD, .int a, .int b] ∧ ws = [wREAD, TL.numL a, TL.numL b]) ∨
  (∃ a b : Nat, a < 10 ^ 18 ∧ b < 10 ^ 18 ∧ w = .tup [.str wWRITE, .int a, .int b] ∧ ws = [wWRITE, TL.numL a, TL.numL b]) ∨ (∃ a : Nat, a < 2 ∧ w = .tup [.str wASK, .int a] ∧ ws = [wASK, TL.numL a])
abbrev WT : Type := Nat → D → List (List Nat) → List Row → Nat → Prop
def StsF (W : WT) (i : Nat) : List D → List Row → Nat → Prop
  | [], rs, sz => rs = [] ∧ sz = 0
  | x :: r, rs, sz => ∃ (n : Nat) (held : List Nat) (w : D) (ws : List (List Nat)) (r1 : List Row) (s1 : Nat) (r2 : List Row) (s2 : Nat), x = .tup [.int n, .tup (nts held), w] ∧ n < 10000 ∧ Nums held ∧ W i w ws r1 s1 ∧
      rs = (i, TL.numL n :: (held.map TL.numL ++ [58] :: ws)) :: (r1 ++ r2) ∧ StsF W i r r2 s2 ∧ sz = 1 + s1 + s2
def ChF (W : WT) (i : Nat) (c : D) (rs : List Row) (sz : Nat) : Prop := ∃ (nm : List Nat) (args : List Nat) (sts : List D) (ans : Nat) (r1 : List Row), c = .tup [.str nm, .tup (nts args), .tup sts, .int ans] ∧ NameW nm ∧ Nums args ∧ ans < 10 ^ 18 ∧
  StsF W (i + 1) sts r1 sz ∧ rs = (i, wCHAIN :: nm :: args.map TL.numL) :: (r1 ++ [(i, [wBACK, TL.numL ans])])
def WhR : Nat → WT
  | 0, _, w, ws, rs, sz => Leaf w ws ∧ rs = [] ∧ sz = 0
  | d + 1, i, w, ws, rs, sz => (Leaf w ws ∧ rs = [] ∧ sz = 0) ∨ ∃ c, w = .tup [.str wCALL, c] ∧ ws = [wCALL] ∧ ChF (WhR d) i c rs sz
theorem WhR.leaf {d i : Nat} {w : D} {ws : List (List Nat)} (l : Leaf w ws) : WhR d i w ws [] 0 := by
  cases d with
  | zero => exact ⟨l, rfl, rfl⟩
  | succ d => exact .inl ⟨l, rfl, rfl⟩
theorem StsF.snoc {W : WT} {i : Nat} {n : Nat} {held : List Nat} {w : D} {ws : List (List Nat)} {r1 : List Row} {s1 : Nat} (hn : n < 10000) (hh : Nums held) (hw : W i w ws r1 s1) : ∀ {xs : List D} {rs : List Row} {sz : Nat}, StsF W i xs rs sz →
    StsF W i (xs ++ [.tup [.int n, .tup (nts held), w]]) (rs ++ (i, TL.numL n :: (held.map TL.numL ++ [58] :: ws)) :: r1) (sz + 1 + s1)
  | [], rs, sz, ⟨e1, e2⟩ => by
    subst e1 e2
    exact ⟨n, held, w, ws, r1, s1, [], 0, rfl, hn, hh, hw, by simp, ⟨rfl, rfl⟩, by omega⟩
  | x :: r, rs, sz, ⟨n', held', w', ws', r1', s1', r2, s2, e, a, b, c, e2, d, e3⟩ => by
    subst e2 e3
    exact ⟨n', held', w', ws', r1', s1', _, _, e, a, b, c, by simp, StsF.snoc hn hh hw d, by omega⟩
/-! ### drawing a chain -/
theorem take_k {K : Nat} {b : Addr} {wide : Int} {h : DH} {m : MO} {q : DQ} {x : DX} (hK : 1 ≤ K) (hb : h b = some m) (hm : BoxM m) (w0 : 0 < wide) (w1 : wide < 2 ^ 63)
    (z : ∀ r m', BoxM m' → 0 ≤ r → r < wide → q (.int r) (dup h b m')) : (callD K).l_take [.ref b, .int wide] h q x := by
  obtain ⟨k, rfl⟩ := Nat.exists_eq_add_of_le' hK
  exact take_ok hb hm w0 w1 z
theorem number_k {K : Nat} {b : Addr} {h : DH} {m : MO} {q : DQ} {x : DX} (hK : 2 ≤ K) (hb : h b = some m) (hm : BoxM m)
    (z : ∀ (n : Nat) m', BoxM m' → n < 10 ^ 18 → q (.int n) (dup h b m')) : (callD K).l_number [.ref b] h q x := by
  obtain ⟨k, rfl⟩ := Nat.exists_eq_add_of_le' hK
  refine number_ok hb hm fun r m' h1 h2 h3 => ?_
  obtain ⟨n, rfl⟩ := Int.eq_ofNat_of_zero_le h2
  exact z n m' h1 (by omega)
def IsNum (y : D) : Prop := ∃ n : Nat, y = .int n ∧ n < 10 ^ 18
theorem nums_of : ∀ {ys : List D}, (∀ y ∈ ys, IsNum y) → ∃ xs : List Nat, ys = nts xs ∧ ∀ a ∈ xs, a < 10 ^ 18
  | [], _ => ⟨[], rfl, by simp⟩
  | y :: r, h => by
    obtain ⟨n, rfl, hn⟩ := h y (List.mem_cons_self ..)
    obtain ⟨xs, rfl, hx⟩ := nums_of fun y hy => h y (List.mem_cons_of_mem _ hy)
    exact ⟨n :: xs, rfl, by intro a ha; rcases List.mem_cons.mp ha with e | e; rw [e]; exact hn; exact hx a e⟩
theorem number_gen {K : Nat} {b : Addr} {s : DS} (hK : 2 ≤ K) (e0 : s[0]? = some (some (.ref b))) : GenE b IsNum (dCall (callD K).l_number dNoW (dCons (dVar 0) dNil)) s := by
  intro h m F hb hm z
  simp only [body, dstart, dSeq, dIf, dAsg, dRet, dRetN, dNext, dDrop, dTest, dAnd, dOr, dNot, dAndV, dOrV, dNotV, dIfE, dOp, dUn, dC, dVar_e, dNil, dCons, dTup, dLst, dCall, dM1, dL1_e, dSl, oNo, oSo, gSet, gUn, gsCons, gsNil, dStI_e, dYes, ex_eq, ex_eq1, ex_bl, ex_str, ex_int, ex_ref, ex_tup, ex_cons, ex_lst1, ex_ins1, ex_ds, split_1, qin_str, qnin_str, append_, add_ii, add_ss, add_tt, sub_ii, mul_ii, mul_si, div_ii, mod_ii, pow_ii, lt_ii, le_ii, gt_ii, ge_ii, neg_i, eq_ii, eq_ss, ne_ii, ne_ss, qix_tup, qix_cl, qix_str, at0, at1, at2, at3, qlen_tup, qlen_cl, qlen_str, toI_i, toI_b, toI_s, toS_i, toS_s, qsl_tup, qsl_cl, qsl_str, List.map_cons, List.map_nil, List.length_cons, List.length_nil, List.replicate, List.cons_append, List.nil_append, List.getElem?_cons_zero, List.getElem?_cons_succ, List.set_cons_zero, List.set_cons_succ, true_and, and_true, Nat.reduceAdd, Nat.reduceSub, decide_eq_true_eq, e0]
  exact number_k hK hb hm fun n m' h1 h2 => z _ m' h1 ⟨n, rfl, h2⟩
/-- tuple([number(box) for .. in range(take(box, 4))]) -/
theorem nums_lc {K v : Nat} {b : Addr} {s : DS} {h : DH} {m : MO} {q : DQ} {w : DW} (hK : 2 ≤ K) (hv : v ≠ 0) (e0 : s[0]? = some (some (.ref b))) (hb : h b = some m) (hm : BoxM m)
    (z : ∀ xs m' p, Nums xs → BoxM m' → h p = none → q (.tup (nts xs)) (dup (dup h b m') p (.lst (nts xs)))) :
    dLc (ML.iRng1 (dCall (callD K).l_take w (dCons (dVar 0) (dCons (dC (.int 4)) dNil)))) (gSet v) dYes (dCall (callD K).l_number dNoW (dCons (dVar 0) dNil)) [v] s h fun x h1 => dTuple x h1 q := by
  unfold dLc ML.iRng1
  simp only [body, dstart, dSeq, dIf, dAsg, dRet, dRetN, dNext, dDrop, dTest, dAnd, dOr, dNot, dAndV, dOrV, dNotV, dIfE, dOp, dUn, dC, dVar_e, dNil, dCons, dTup, dLst, dCall, dM1, dL1_e, dSl, oNo, oSo, gSet, gUn, gsCons, gsNil, dStI_e, dYes, ex_eq, ex_eq1, ex_bl, ex_str, ex_int, ex_ref, ex_tup, ex_cons, ex_lst1, ex_ins1, ex_ds, split_1, qin_str, qnin_str, append_, add_ii, add_ss, add_tt, sub_ii, mul_ii, mul_si, div_ii, mod_ii, pow_ii, lt_ii, le_ii, gt_ii, ge_ii, neg_i, eq_ii, eq_ss, ne_ii, ne_ss, qix_tup, qix_cl, qix_str, at0, at1, at2, at3, qlen_tup, qlen_cl, qlen_str, toI_i, toI_b, toI_s, toS_i, toS_s, qsl_tup, qsl_cl, qsl_str, List.map_cons, List.map_nil, List.length_cons, List.length_nil, List.replicate, List.cons_append, List.nil_append, List.getElem?_cons_zero, List.getElem?_cons_succ, List.set_cons_zero, List.set_cons_succ, true_and, and_true, Nat.reduceAdd, Nat.reduceSub, decide_eq_true_eq, e0]
  refine take_k (by omega) hb hm (by decide) (by decide) fun n m1 h1 n0 n1 => ⟨n, rfl, by omega, by omega, _, .refl _, comp_gen (b := b) (P := IsNum) (fun d => number_gen hK ?_) _ _ _ m1 dup_same h1 ?_ fun ys m2 h2 hy hp p hp7 => ?_⟩
  · simp only [dwipe]
    rw [List.getElem?_set_ne hv, List.getElem?_set_ne hv]; exact e0
  · rw [rngD_len]; simp; unfold sizeLine; omega
  · rw [rngD_len] at hy
    obtain ⟨xs, rfl, hx⟩ := nums_of hp
    rw [dup_dup] at hp7 ⊢
    rw [List.nil_append, qtup_ref dup_same]
    refine z xs m2 p ⟨by unfold nts at hy; rw [List.length_map] at hy; omega, hx⟩ h2 (by simp only [dup] at hp7; grind)
/-! ### what, chain -/
abbrev hpC (h : DH) (b sp : Addr) (m : MO) (z : Nat) : DH := dup (dup h b m) sp (.lst [.int z])
def ChainOk (K d : Nat) : Prop := ∀ {b nms sp : Addr} {h : DH} {m : MO} {z : Nat} {names : List (List Nat)} {q : DQ} {x : DX}, h b = some m → BoxM m → h nms = some (.lst (names.map .str)) → h sp = some (.lst [.int z]) → b ≠ nms → b ≠ sp → nms ≠ sp →
  names ≠ [] → names.length ≤ 12 → (∀ w ∈ names, NameW w) →
  (∀ c sz m' z', BoxM m' → (∀ i, ∃ rs, ChF (WhR d) i c rs sz) → sz + z' ≤ z → q c (hpC h b sp m' z')) → (callD K).l_chain [.ref b, .ref nms, .ref sp, .int d] h q x
def WhatOk (K d : Nat) : Prop := ∀ {b nms sp : Addr} {h : DH} {m : MO} {z : Nat} {names : List (List Nat)} {q : DQ} {x : DX}, h b = some m → BoxM m → h nms = some (.lst (names.map .str)) → h sp = some (.lst [.int z]) → b ≠ nms → b ≠ sp → nms ≠ sp →
  names ≠ [] → names.length ≤ 12 → (∀ w ∈ names, NameW w) →
  (∀ w sz m' z', BoxM m' → (∀ i, ∃ ws rs, WhR d i w ws rs sz) → sz + z' ≤ z → q w (hpC h b sp m' z')) → (callD K).l_what [.ref b, .ref nms, .ref sp, .int d] h q x
theorem what_ok {K d : Nat} (hK : 2 ≤ K) (hc : ∀ d', d = d' + 1 → ChainOk K d') : WhatOk (K + 1) d := by
  intro b nms sp h m z names q x hb hm hn hs n1 n2 n3 ne nl nw hq
  have fin : ∀ {w ws hh m'}, Leaf w ws → BoxM m' → Le (dup h b m') hh → wkQ q w hh := by
    intro w ws hh m' l hm' le
    refine wkq le ?_
    have := hq w 0 m' z hm' (fun i => ⟨ws, [], WhR.leaf l⟩) (by omega)
    rwa [hpC, dup_id (show dup h b m' sp = _ by rw [dup_ne (Ne.symm n2)]; exact hs)] at this
  rw [cd_l_what]; simp only [tb_l_what_1, tb_l_what_2, tb_l_what_3, tb_l_what, body, dstart, dSeq, dIf, dAsg, dRet, dRetN, dNext, dDrop, dTest, dAnd, dOr, dNot, dAndV, dOrV, dNotV, dIfE, dOp, dUn, dC, dVar_e, dNil, dCons, dTup, dLst, dCall, dM1, dL1_e, dSl, oNo, oSo, gSet, gUn, gsCons, gsNil, dStI_e, dYes, ex_eq, ex_eq1, ex_bl, ex_str, ex_int, ex_ref, ex_tup, ex_cons, ex_lst1, ex_ins1, ex_ds, split_1, qin_str, qnin_str, append_, add_ii, add_ss, add_tt, sub_ii, mul_ii, mul_si, div_ii, mod_ii, pow_ii, lt_ii, le_ii, gt_ii, ge_ii, neg_i, eq_ii, eq_ss, ne_ii, ne_ss, qix_tup, qix_cl, qix_str, at0, at1, at2, at3, qlen_tup, qlen_cl, qlen_str, toI_i, toI_b, toI_s, toS_i, toS_s, qsl_tup, qsl_cl, qsl_str, List.map_cons, List.map_nil, List.length_cons, List.length_nil, List.replicate, List.cons_append, List.nil_append, List.getElem?_cons_zero, List.getElem?_cons_succ, List.set_cons_zero, List.set_cons_succ, true_and, and_true, Nat.reduceAdd, Nat.reduceSub, decide_eq_true_eq]
  refine take_k (by omega) hb hm (by decide) (by decide) fun r m1 h1 r0 r1 => ?_
  simp only [body, dstart, dSeq, dIf, dAsg, dRet, dRetN, dNext, dDrop, dTest, dAnd, dOr, dNot, dAndV, dOrV, dNotV, dIfE, dOp, dUn, dC, dVar_e, dNil, dCons, dTup, dLst, dCall, dM1, dL1_e, dSl, oNo, oSo, gSet, gUn, gsCons, gsNil, dStI_e, dYes, ex_eq, ex_eq1, ex_bl, ex_str, ex_int, ex_ref, ex_tup, ex_cons, ex_lst1, ex_ins1, ex_ds, split_1, qin_str, qnin_str, append_, add_ii, add_ss, add_tt, sub_ii, mul_ii, mul_si, div_ii, mod_ii, pow_ii, lt_ii, le_ii, gt_ii, ge_ii, neg_i, eq_ii, eq_ss, ne_ii, ne_ss, qix_tup, qix_cl, qix_str, at0, at1, at2, at3, qlen_tup, qlen_cl, qlen_str, toI_i, toI_b, toI_s, toS_i, toS_s, qsl_tup, qsl_cl, qsl_str, List.map_cons, List.map_nil, List.length_cons, List.length_nil, List.replicate, List.cons_append, List.nil_append, List.getElem?_cons_zero, List.getElem?_cons_succ, List.set_cons_zero, List.set_cons_succ, true_and, and_true, Nat.reduceAdd, Nat.reduceSub, decide_eq_true_eq]
  by_cases e1 : r < 2
  · rw [if_pos e1]
    refine number_k hK dup_same h1 fun a m2 h2 ha => number_k hK dup_same h2 fun a' m3 h3 ha' => ?_
    rw [dup_dup, dup_dup]
    exact ⟨by decide, fin (.inl ⟨a, a', ha, ha', rfl, rfl⟩) h3 (.refl _)⟩
  · rw [if_neg e1]
    by_cases e2 : r = 2
    · rw [if_pos e2]
      refine number_k hK dup_same h1 fun a m2 h2 ha => number_k hK dup_same h2 fun a' m3 h3 ha' => ?_
      rw [dup_dup, dup_dup]
      exact ⟨by decide, fin (.inr (.inl ⟨a, a', ha, ha', rfl, rfl⟩)) h3 (.refl _)⟩
    · rw [if_neg e2]
      have ask : (callD K).l_take [D.ref b, D.int 2] (dup h b m1) (fun x h1 => 2 ≤ sizeLine ∧ wkQ q (D.tup [D.str [97, 115, 107], x]) h1) fun c fs h' => wkX x c fs h' := by
        refine take_k (by omega) dup_same h1 (by decide) (by decide) fun r2 m2 h2 r20 r21 => ?_
        obtain ⟨a, rfl⟩ := Int.eq_ofNat_of_zero_le r20
        rw [dup_dup]
        exact ⟨by decide, fin (.inr (.inr ⟨a, by omega, rfl, rfl⟩)) h2 (.refl _)⟩
      by_cases e3 : r = 3
      · rw [if_pos e3, if_pos trivial]; exact ask
      · rw [if_neg e3]
        by_cases e4 : (d : Int) = 0
        · rw [if_pos e4]; exact ask
        · rw [if_neg e4]
          obtain ⟨d', rfl⟩ : ∃ d', d = d' + 1 := ⟨d - 1, by omega⟩
          rw [show ((d' + 1 : Nat) : Int) - 1 = (d' : Nat) by omega]
          refine hc d' rfl (names := names) (z := z) dup_same h1 (by rw [dup_ne (Ne.symm n1)]; exact hn) (by rw [dup_ne (Ne.symm n2)]; exact hs) n1 n2 n3 ne nl nw fun c sz m2 z2 h2 hc2 hz2 => ⟨by decide, wkq0 ?_⟩
          rw [hpC, dup_dup]
          refine hq _ sz m2 z2 h2 (fun i => ?_) hz2
          obtain ⟨rs, g⟩ := hc2 i
          exact ⟨_, rs, .inr ⟨c, rfl, rfl, g⟩⟩
theorem chain_ok {K d : Nat} (hK : 2 ≤ K) (hw : WhatOk K d) : ChainOk (K + 1) d := by
  intro b nms sp h m z names q x hb hm hn hs n1 n2 n3 ne nl nw hq
  rw [cd_l_chain]; simp only [tb_l_chain, tb_l_chain_6, tb_l_chain_5, tb_l_chain_4, body, dstart, dSeq, dIf, dAsg, dRet, dRetN, dNext, dDrop, dTest, dAnd, dOr, dNot, dAndV, dOrV, dNotV, dIfE, dOp, dUn, dC, dVar_e, dNil, dCons, dTup, dLst, dCall, dM1, dL1_e, dSl, oNo, oSo, gSet, gUn, gsCons, gsNil, dStI_e, dYes, ex_eq, ex_eq1, ex_bl, ex_str, ex_int, ex_ref, ex_tup, ex_cons, ex_lst1, ex_ins1, ex_ds, split_1, qin_str, qnin_str, append_, add_ii, add_ss, add_tt, sub_ii, mul_ii, mul_si, div_ii, mod_ii, pow_ii, lt_ii, le_ii, gt_ii, ge_ii, neg_i, eq_ii, eq_ss, ne_ii, ne_ss, qix_tup, qix_cl, qix_str, at0, at1, at2, at3, qlen_tup, qlen_cl, qlen_str, toI_i, toI_b, toI_s, toS_i, toS_s, qsl_tup, qsl_cl, qsl_str, List.map_cons, List.map_nil, List.length_cons, List.length_nil, List.replicate, List.cons_append, List.nil_append, List.getElem?_cons_zero, List.getElem?_cons_succ, List.set_cons_zero, List.set_cons_succ, true_and, and_true, Nat.reduceAdd, Nat.reduceSub, decide_eq_true_eq]
  refine nums_lc hK (by decide) (by simp only [body, dstart, dSeq, dIf, dAsg, dRet, dRetN, dNext, dDrop, dTest, dAnd, dOr, dNot, dAndV, dOrV, dNotV, dIfE, dOp, dUn, dC, dVar_e, dNil, dCons, dTup, dLst, dCall, dM1, dL1_e, dSl, oNo, oSo, gSet, gUn, gsCons, gsNil, dStI_e, dYes, ex_eq, ex_eq1, ex_bl, ex_str, ex_int, ex_ref, ex_tup, ex_cons, ex_lst1, ex_ins1, ex_ds, split_1, qin_str, qnin_str, append_, add_ii, add_ss, add_tt, sub_ii, mul_ii, mul_si, div_ii, mod_ii, pow_ii, lt_ii, le_ii, gt_ii, ge_ii, neg_i, eq_ii, eq_ss, ne_ii, ne_ss, qix_tup, qix_cl, qix_str, at0, at1, at2, at3, qlen_tup, qlen_cl, qlen_str, toI_i, toI_b, toI_s, toS_i, toS_s, qsl_tup, qsl_cl, qsl_str, List.map_cons, List.map_nil, List.length_cons, List.length_nil, List.replicate, List.cons_append, List.nil_append, List.getElem?_cons_zero, List.getElem?_cons_succ, List.set_cons_zero, List.set_cons_succ, true_and, and_true, Nat.reduceAdd, Nat.reduceSub, decide_eq_true_eq]) hb hm fun args m1 p1 ha h1 hp1 => ?_
  have f1 : p1 ≠ b ∧ p1 ≠ nms ∧ p1 ≠ sp := by refine ⟨?_, ?_, ?_⟩ <;> (intro e; subst e; simp_all)
  simp only [qlen_ref (show dup (dup h b m1) p1 (MO.lst (nts args)) nms = some (.lst (names.map .str)) by simp only [dup]; grind)]
  refine take_k (by omega) (by simp only [dup]; grind) h1 (by have : names.length ≠ 0 := fun e => ne (List.length_eq_zero_iff.mp e); rw [List.length_map]; omega) (by rw [List.length_map]; omega) fun r m2 h2 r0 r1 => ?_
  rw [List.length_map] at r1
  obtain ⟨nm, hnm, enm⟩ := at_map (f := D.str) r0 r1
  rw [qix_ref (ds := names.map .str) (by simp only [dup]; grind)]
  refine ⟨_, enm, ?_⟩
  refine ⟨by decide, fun p2 hp2 => ?_⟩
  have g2 : h p2 = none := by simp only [dup] at hp2; grind
  have f2 : p2 ≠ b ∧ p2 ≠ nms ∧ p2 ≠ sp := by refine ⟨?_, ?_, ?_⟩ <;> (intro e; subst e; simp only [dup] at hp2; grind)
  simp only [dFor, ML.iRng1, body, dstart, dSeq, dIf, dAsg, dRet, dRetN, dNext, dDrop, dTest, dAnd, dOr, dNot, dAndV, dOrV, dNotV, dIfE, dOp, dUn, dC, dVar_e, dNil, dCons, dTup, dLst, dCall, dM1, dL1_e, dSl, oNo, oSo, gSet, gUn, gsCons, gsNil, dStI_e, dYes, ex_eq, ex_eq1, ex_bl, ex_str, ex_int, ex_ref, ex_tup, ex_cons, ex_lst1, ex_ins1, ex_ds, split_1, qin_str, qnin_str, append_, add_ii, add_ss, add_tt, sub_ii, mul_ii, mul_si, div_ii, mod_ii, pow_ii, lt_ii, le_ii, gt_ii, ge_ii, neg_i, eq_ii, eq_ss, ne_ii, ne_ss, qix_tup, qix_cl, qix_str, at0, at1, at2, at3, qlen_tup, qlen_cl, qlen_str, toI_i, toI_b, toI_s, toS_i, toS_s, qsl_tup, qsl_cl, qsl_str, List.map_cons, List.map_nil, List.length_cons, List.length_nil, List.replicate, List.cons_append, List.nil_append, List.getElem?_cons_zero, List.getElem?_cons_succ, List.set_cons_zero, List.set_cons_succ, true_and, and_true, Nat.reduceAdd, Nat.reduceSub, decide_eq_true_eq]
  refine take_k (by omega) (by simp only [dup]; grind) h2 (by decide) (by decide) fun n m3 h3 n0 n1' => ⟨n, rfl, by omega, by omega, wk0 (for_ind (fun rem s hh => ∃ (m' : MO) (z' sz : Nat) (acc : List D) (v7 v8 v9 v10 : Option D), BoxM m' ∧ Le (dup (hpC h b sp m' z') p2 (.lst acc)) hh ∧ sz + z' ≤ z ∧ acc.length + rem.length ≤ 6 ∧
    (∀ i, ∃ rs, StsF (WhR d) i acc rs sz) ∧ s = [some (D.ref b), some (D.ref nms), some (D.ref sp), some (D.int d), some (D.tup (nts args)), some (D.str nm), some (D.ref p2), v7, v8, v9, v10]) ?_ ?_ _ _ _ ⟨m3, z, 0, [], none, none, none, none, h3, ?_, by omega, by rw [rngD_len]; simp; omega, fun i => ⟨[], rfl, rfl⟩, rfl⟩)⟩
  · rintro s hh ⟨m', z', sz, acc, v7, v8, v9, v10, hm', hle, hz, hl, hst, rfl⟩
    have eb : hh b = some m' := hle _ _ (by simp only [hpC, dup]; grind)
    have e2 : hh p2 = some (.lst acc) := hle _ _ (by simp only [hpC, dup]; grind)
    simp only [body, dstart, dSeq, dIf, dAsg, dRet, dRetN, dNext, dDrop, dTest, dAnd, dOr, dNot, dAndV, dOrV, dNotV, dIfE, dOp, dUn, dC, dVar_e, dNil, dCons, dTup, dLst, dCall, dM1, dL1_e, dSl, oNo, oSo, gSet, gUn, gsCons, gsNil, dStI_e, dYes, ex_eq, ex_eq1, ex_bl, ex_str, ex_int, ex_ref, ex_tup, ex_cons, ex_lst1, ex_ins1, ex_ds, split_1, qin_str, qnin_str, append_, add_ii, add_ss, add_tt, sub_ii, mul_ii, mul_si, div_ii, mod_ii, pow_ii, lt_ii, le_ii, gt_ii, ge_ii, neg_i, eq_ii, eq_ss, ne_ii, ne_ss, qix_tup, qix_cl, qix_str, at0, at1, at2, at3, qlen_tup, qlen_cl, qlen_str, toI_i, toI_b, toI_s, toS_i, toS_s, qsl_tup, qsl_cl, qsl_str, List.map_cons, List.map_nil, List.length_cons, List.length_nil, List.replicate, List.cons_append, List.nil_append, List.getElem?_cons_zero, List.getElem?_cons_succ, List.set_cons_zero, List.set_cons_succ, true_and, and_true, Nat.reduceAdd, Nat.reduceSub, decide_eq_true_eq, qtup_ref e2]
    refine number_k hK eb hm' fun a m4 h4 ha4 => ⟨by decide, wkq (h' := hpC h b sp m4 z') ?_ (hq _ sz m4 z' h4 (fun i => ?_) hz)⟩
    · intro a o e
      have := hle a o
      simp only [hpC, dup] at this e ⊢
      grind
    · obtain ⟨rs, g⟩ := hst (i + 1)
      exact ⟨_, nm, args, acc, a, rs, rfl, nw nm hnm, ha, ha4, g, rfl⟩
  · rintro y rem s hh ⟨m', z', sz, acc, v7, v8, v9, v10, hm', hle, hz, hl, hst, rfl⟩
    have eb : hh b = some m' := hle _ _ (by simp only [hpC, dup]; grind)
    have e2 : hh p2 = some (.lst acc) := hle _ _ (by simp only [hpC, dup]; grind)
    have es : hh sp = some (.lst [.int z']) := hle _ _ (by simp only [hpC, dup]; grind)
    have en : hh nms = some (.lst (names.map .str)) := hle _ _ (by simp only [hpC, dup]; grind)
    refine ⟨trivial, fun F hF => ?_⟩
    simp only [gSet, tb_l_chain_3, tb_l_chain_2, tb_l_chain_1, body, dstart, dSeq, dIf, dAsg, dRet, dRetN, dNext, dDrop, dTest, dAnd, dOr, dNot, dAndV, dOrV, dNotV, dIfE, dOp, dUn, dC, dVar_e, dNil, dCons, dTup, dLst, dCall, dM1, dL1_e, dSl, oNo, oSo, gSet, gUn, gsCons, gsNil, dStI_e, dYes, ex_eq, ex_eq1, ex_bl, ex_str, ex_int, ex_ref, ex_tup, ex_cons, ex_lst1, ex_ins1, ex_ds, split_1, qin_str, qnin_str, append_, add_ii, add_ss, add_tt, sub_ii, mul_ii, mul_si, div_ii, mod_ii, pow_ii, lt_ii, le_ii, gt_ii, ge_ii, neg_i, eq_ii, eq_ss, ne_ii, ne_ss, qix_tup, qix_cl, qix_str, at0, at1, at2, at3, qlen_tup, qlen_cl, qlen_str, toI_i, toI_b, toI_s, toS_i, toS_s, qsl_tup, qsl_cl, qsl_str, List.map_cons, List.map_nil, List.length_cons, List.length_nil, List.replicate, List.cons_append, List.nil_append, List.getElem?_cons_zero, List.getElem?_cons_succ, List.set_cons_zero, List.set_cons_succ, true_and, and_true, Nat.reduceAdd, Nat.reduceSub, decide_eq_true_eq, qix_ref es]
    by_cases hz0 : 0 < (z' : Int)
    · rw [if_pos hz0, stI_ es (j := 0) rfl]
      simp only [body, dstart, dSeq, dIf, dAsg, dRet, dRetN, dNext, dDrop, dTest, dAnd, dOr, dNot, dAndV, dOrV, dNotV, dIfE, dOp, dUn, dC, dVar_e, dNil, dCons, dTup, dLst, dCall, dM1, dL1_e, dSl, oNo, oSo, gSet, gUn, gsCons, gsNil, dStI_e, dYes, ex_eq, ex_eq1, ex_bl, ex_str, ex_int, ex_ref, ex_tup, ex_cons, ex_lst1, ex_ins1, ex_ds, split_1, qin_str, qnin_str, append_, add_ii, add_ss, add_tt, sub_ii, mul_ii, mul_si, div_ii, mod_ii, pow_ii, lt_ii, le_ii, gt_ii, ge_ii, neg_i, eq_ii, eq_ss, ne_ii, ne_ss, qix_tup, qix_cl, qix_str, at0, at1, at2, at3, qlen_tup, qlen_cl, qlen_str, toI_i, toI_b, toI_s, toS_i, toS_s, qsl_tup, qsl_cl, qsl_str, List.map_cons, List.map_nil, List.length_cons, List.length_nil, List.replicate, List.cons_append, List.nil_append, List.getElem?_cons_zero, List.getElem?_cons_succ, List.set_cons_zero, List.set_cons_succ, true_and, and_true, Nat.reduceAdd, Nat.reduceSub, decide_eq_true_eq]
      refine ⟨by decide, fun p3 hp3 => ?_⟩
      have f3 : p3 ≠ b ∧ p3 ≠ nms ∧ p3 ≠ sp ∧ p3 ≠ p2 := by refine ⟨?_, ?_, ?_, ?_⟩ <;> (intro e; subst e; simp only [dup] at hp3; grind)
      refine take_k (by omega) (by simp only [dup]; grind) hm' (by decide) (by decide) fun r5 m4 h4 r50 r51 => ?_
      simp only [body, dstart, dSeq, dIf, dAsg, dRet, dRetN, dNext, dDrop, dTest, dAnd, dOr, dNot, dAndV, dOrV, dNotV, dIfE, dOp, dUn, dC, dVar_e, dNil, dCons, dTup, dLst, dCall, dM1, dL1_e, dSl, oNo, oSo, gSet, gUn, gsCons, gsNil, dStI_e, dYes, ex_eq, ex_eq1, ex_bl, ex_str, ex_int, ex_ref, ex_tup, ex_cons, ex_lst1, ex_ins1, ex_ds, split_1, qin_str, qnin_str, append_, add_ii, add_ss, add_tt, sub_ii, mul_ii, mul_si, div_ii, mod_ii, pow_ii, lt_ii, le_ii, gt_ii, ge_ii, neg_i, eq_ii, eq_ss, ne_ii, ne_ss, qix_tup, qix_cl, qix_str, at0, at1, at2, at3, qlen_tup, qlen_cl, qlen_str, toI_i, toI_b, toI_s, toS_i, toS_s, qsl_tup, qsl_cl, qsl_str, List.map_cons, List.map_nil, List.length_cons, List.length_nil, List.replicate, List.cons_append, List.nil_append, List.getElem?_cons_zero, List.getElem?_cons_succ, List.set_cons_zero, List.set_cons_succ, true_and, and_true, Nat.reduceAdd, Nat.reduceSub, decide_eq_true_eq]
      rw [qix_ref (ds := [D.int 9, D.int 10000]) (by simp only [dup]; grind)]
      have pick : ∃ w : Int, atI [D.int 9, D.int 10000] (if decide (r5 = 0) = true then 1 else 0) = some (.int w) ∧ 0 < w ∧ w ≤ 10000 := by
        by_cases e : r5 = 0
        · exact ⟨10000, by rw [if_pos (decide_eq_true e)]; exact at1, by decide, by decide⟩
        · exact ⟨9, by rw [if_neg (by simpa using e)]; exact at0, by decide, by decide⟩
      obtain ⟨wd, ew, w0, w1⟩ := pick
      simp only [decide_eq_true_eq] at ew
      refine ⟨_, ew, ?_⟩
      refine take_k (by omega) dup_same h4 w0 (by omega) fun nn m5 h5 nn0 nn1 => ?_
      obtain ⟨nn, rfl⟩ := Int.eq_ofNat_of_zero_le nn0
      refine nums_lc hK (by decide) (by simp only [body, dstart, dSeq, dIf, dAsg, dRet, dRetN, dNext, dDrop, dTest, dAnd, dOr, dNot, dAndV, dOrV, dNotV, dIfE, dOp, dUn, dC, dVar_e, dNil, dCons, dTup, dLst, dCall, dM1, dL1_e, dSl, oNo, oSo, gSet, gUn, gsCons, gsNil, dStI_e, dYes, ex_eq, ex_eq1, ex_bl, ex_str, ex_int, ex_ref, ex_tup, ex_cons, ex_lst1, ex_ins1, ex_ds, split_1, qin_str, qnin_str, append_, add_ii, add_ss, add_tt, sub_ii, mul_ii, mul_si, div_ii, mod_ii, pow_ii, lt_ii, le_ii, gt_ii, ge_ii, neg_i, eq_ii, eq_ss, ne_ii, ne_ss, qix_tup, qix_cl, qix_str, at0, at1, at2, at3, qlen_tup, qlen_cl, qlen_str, toI_i, toI_b, toI_s, toS_i, toS_s, qsl_tup, qsl_cl, qsl_str, List.map_cons, List.map_nil, List.length_cons, List.length_nil, List.replicate, List.cons_append, List.nil_append, List.getElem?_cons_zero, List.getElem?_cons_succ, List.set_cons_zero, List.set_cons_succ, true_and, and_true, Nat.reduceAdd, Nat.reduceSub, decide_eq_true_eq]) dup_same h5 fun held m6 p4 hd h6 hp4 => ?_
      have f4 : p4 ≠ b ∧ p4 ≠ nms ∧ p4 ≠ sp ∧ p4 ≠ p2 := by refine ⟨?_, ?_, ?_, ?_⟩ <;> (intro e; subst e; simp only [dup] at hp4; grind)
      rw [l1_ (ds := acc) (by simp only [dup]; grind)]
      simp only [body, dstart, dSeq, dIf, dAsg, dRet, dRetN, dNext, dDrop, dTest, dAnd, dOr, dNot, dAndV, dOrV, dNotV, dIfE, dOp, dUn, dC, dVar_e, dNil, dCons, dTup, dLst, dCall, dM1, dL1_e, dSl, oNo, oSo, gSet, gUn, gsCons, gsNil, dStI_e, dYes, ex_eq, ex_eq1, ex_bl, ex_str, ex_int, ex_ref, ex_tup, ex_cons, ex_lst1, ex_ins1, ex_ds, split_1, qin_str, qnin_str, append_, add_ii, add_ss, add_tt, sub_ii, mul_ii, mul_si, div_ii, mod_ii, pow_ii, lt_ii, le_ii, gt_ii, ge_ii, neg_i, eq_ii, eq_ss, ne_ii, ne_ss, qix_tup, qix_cl, qix_str, at0, at1, at2, at3, qlen_tup, qlen_cl, qlen_str, toI_i, toI_b, toI_s, toS_i, toS_s, qsl_tup, qsl_cl, qsl_str, List.map_cons, List.map_nil, List.length_cons, List.length_nil, List.replicate, List.cons_append, List.nil_append, List.getElem?_cons_zero, List.getElem?_cons_succ, List.set_cons_zero, List.set_cons_succ, true_and, and_true, Nat.reduceAdd, Nat.reduceSub, decide_eq_true_eq]
      refine hw (z := z' - 1) (names := names) (m := m6) (by simp only [dup]; grind) h6 (by simp only [dup]; grind) (by simp only [dup, List.set_cons_zero]; grind) n1 n2 n3 ne nl nw fun w sw m7 z7 h7 hw7 hz7 => ⟨by decide, acc, by simp only [hpC, dup]; grind, by simp at hl; unfold sizeLine; omega, ?_⟩
      refine hF _ _ _ (dup (hpC h b sp m7 z7) p2 (.lst (acc ++ [.tup [.int nn, .tup (nts held), w]]))) ⟨rfl, fun _ _ e => e⟩ ?_ ⟨m7, z7, sz + 1 + sw, _, _, _, _, _, h7, .refl _, by omega, by simp at hl ⊢; omega, fun i => ?_, rfl⟩
      · intro a o e
        have := hle a o
        simp only [hpC, dup] at this e hp3 hp4 ⊢
        grind
      · obtain ⟨rs, g⟩ := hst i
        obtain ⟨ws, rs2, g2⟩ := hw7 i
        exact ⟨_, StsF.snoc (by omega) hd g2 g⟩
    · rw [if_neg hz0]
      exact hF _ _ _ _ ⟨rfl, fun _ _ e => e⟩ (.refl _) ⟨m', z', sz, acc, _, _, _, _, hm', hle, hz, by simp at hl ⊢; omega, hst, rfl⟩
  · intro a o e
    simp only [hpC, dup] at e ⊢
    grind
theorem chain_all : ∀ d K, 2 * d + 4 ≤ K → ChainOk K d
  | 0, K, h => by
    obtain ⟨k, rfl⟩ : ∃ k, K = k + 1 + 1 := ⟨K - 2, by omega⟩
    exact chain_ok (by omega) (what_ok (by omega) fun d' e => by omega)
  | d + 1, K, h => by
    obtain ⟨k, rfl⟩ : ∃ k, K = k + 1 + 1 := ⟨K - 2, by omega⟩
    refine chain_ok (by omega) (what_ok (by omega) fun d' e => ?_)
    obtain rfl : d = d' := by omega
    exact chain_all d _ (by omega)
end k60

set_option Elab.async false
set_option linter.all false
set_option maxRecDepth 100000
set_option maxHeartbeats 1000000
namespace k60
open PySem PySem.Spec PyProof.Rows L2 ML
/-! ### rows as texts -/
structure WordOk (w : List Nat) : Prop where
  ne : w ≠ []
  le : w.length ≤ 18
  nb : 32 ∉ w
  nl : 10 ∉ w
structure RowOk (r : Row) : Prop where
  dep : r.1 ≤ 8
  ne : r.2 ≠ []
  le : r.2.length ≤ 8
  ws : ∀ w ∈ r.2, WordOk w
def bl (i : Nat) : List Nat := List.replicate (2 * i) 32
def rowT (r : Row) : List Nat := bl r.1 ++ TL.joinL [32] r.2
def txs (rs : List Row) : List D := (rs.map rowT).map .str
theorem bl_succ (i : Nat) : bl i ++ [32, 32] = bl (i + 1) := by
  unfold bl
  rw [show 2 * (i + 1) = 2 * i + 2 by omega, ← List.replicate_append_replicate]; rfl
theorem joinL_cons {S a : List Nat} {r : List (List Nat)} (h : r ≠ []) : TL.joinL S (a :: r) = a ++ (S ++ TL.joinL S r) := by
  cases r with
  | nil => exact absurd rfl h
  | cons b r => rfl
theorem joinL_app {S : List Nat} : ∀ {a b : List (List Nat)}, a ≠ [] → b ≠ [] → TL.joinL S (a ++ b) = TL.joinL S a ++ (S ++ TL.joinL S b)
  | [], _, h, _ => absurd rfl h
  | [x], b, _, hb => joinL_cons hb
  | x :: y :: r, b, _, hb => by
    rw [List.cons_append, joinL_cons (by simp), joinL_app (by simp) hb, joinL_cons (a := x) (r := y :: r) (by simp)]
    simp only [List.append_assoc]
theorem joinL_len {n : Nat} : ∀ {ws : List (List Nat)}, (∀ w ∈ ws, w.length ≤ n) → (TL.joinL [32] ws).length ≤ ws.length * (n + 1)
  | [], _ => by simp [TL.joinL]
  | [w], h => by
    have := h w (List.mem_cons_self ..)
    show w.length ≤ _; simp; omega
  | w :: y :: r, h => by
    have h1 := h w (List.mem_cons_self ..)
    have h2 := joinL_len (n := n) (ws := y :: r) fun w hw => h w (List.mem_cons_of_mem _ hw)
    rw [joinL_cons (by simp)]
    simp only [List.length_append, List.length_cons, List.length_nil] at h2 ⊢
    have : (r.length + 1 + 1) * (n + 1) = (r.length + 1) * (n + 1) + (n + 1) := by rw [Nat.succ_mul]
    omega
theorem RowOk.len {r : Row} (h : RowOk r) : (rowT r).length ≤ 200 := by
  have h1 := joinL_len (n := 18) (ws := r.2) fun w hw => (h.ws w hw).le
  have h2 := h.le
  have h3 := h.dep
  unfold rowT bl
  rw [List.length_append, List.length_replicate]
  have : r.2.length * (18 + 1) ≤ 8 * 19 := Nat.mul_le_mul h2 (Nat.le_refl _)
  omega
def Thing (y : D) (t : List Nat) : Prop := y = .str t ∨ ∃ n : Nat, n < 10 ^ 18 ∧ y = .int n ∧ t = TL.numL n
def Things : List D → List (List Nat) → Prop
  | [], [] => True
  | y :: r, t :: ts => Thing y t ∧ Things r ts
  | _, _ => False
theorem Things.app : ∀ {a b : List D} {x y : List (List Nat)}, Things a x → Things b y → Things (a ++ b) (x ++ y)
  | [], _, [], _, _, h => h
  | [], _, _ :: _, _, h, _ => h.elim
  | _ :: _, _, [], _, h, _ => h.elim
  | _ :: _, _, _ :: _, _, ⟨h1, h2⟩, h => ⟨h1, h2.app h⟩
theorem things_nts : ∀ {xs : List Nat}, (∀ a ∈ xs, a < 10 ^ 18) → Things (nts xs) (xs.map TL.numL)
  | [], _ => trivial
  | a :: r, h => ⟨.inr ⟨a, h a (List.mem_cons_self ..), rfl, rfl⟩, things_nts fun a ha => h a (List.mem_cons_of_mem _ ha)⟩
theorem Things.len : ∀ {a : List D} {x : List (List Nat)}, Things a x → a.length = x.length
  | [], [], _ => rfl
  | [], _ :: _, h => h.elim
  | _ :: _, [], h => h.elim
  | _ :: _, _ :: _, ⟨_, h⟩ => by simp [h.len]
theorem sum_le {n : Nat} : ∀ {ws : List (List Nat)}, (∀ w ∈ ws, w.length ≤ n) → (ws.map (·.length)).sum ≤ ws.length * n
  | [], _ => by simp
  | w :: r, h => by
    have h1 := h w (List.mem_cons_self ..)
    have h2 := sum_le (n := n) (ws := r) fun w hw => h w (List.mem_cons_of_mem _ hw)
    simp only [List.map_cons, List.sum_cons, List.length_cons, Nat.succ_mul]
    omega
theorem comp_str {s : DS} (hs : 1 < s.length) {q : List D → DH → Prop} {h : DH} : ∀ (ys : List D) (ts : List (List Nat)) (acc : List D), Things ys ts → acc.length + ys.length < sizeLine → q (acc ++ ts.map .str) h →
    compD (fun _ => True) (gSet 1) dYes (dUn dToStr (dVar 1)) s q ys acc h
  | [], [], acc, _, _, z => ⟨trivial, by rwa [List.map_nil, List.append_nil] at z⟩
  | [], _ :: _, _, h, _, _ => h.elim
  | _ :: _, [], _, h, _, _ => h.elim
  | y :: r, t :: ts, acc, ⟨h1, h2⟩, hl, z => by
    refine ⟨trivial, ?_⟩
    simp only [List.length_cons] at hl
    have e1 : (s.set 1 (some y))[1]? = some (some y) := by rw [List.getElem?_set_self hs]
    simp only [gSet, dYes, if_true, dUn, dVar_e, e1, ex_eq]
    have rest : acc.length < sizeLine ∧ ∃ h5, Le h5 h ∧ compD (fun _ => True) (gSet 1) dYes (dUn dToStr (dVar 1)) s q r (acc ++ [.str t]) h5 :=
      ⟨by omega, h, .refl _, comp_str hs r ts _ h2 (by simp; omega) (by rw [List.append_assoc]; exact z)⟩
    rcases h1 with rfl | ⟨n, hn, rfl, rfl⟩
    · exact rest
    · refine ⟨by omega, ?_, ?_⟩
      · have : (n : Int) < 10 ^ 18 := by exact_mod_cast hn
        exact Int.lt_trans this (by decide)
      · rw [Int.toNat_natCast]; exact rest
theorem wordsum {ts : List (List Nat)} (h1 : ts.length ≤ 8) (h2 : ∀ w ∈ ts, WordOk w) : (ts.map (·.length)).sum + ts.length * 1 ≤ 16777216 := by
  have := sum_le (n := 18) (ws := ts) fun w hw => (h2 w hw).le
  omega
theorem worded_ok {K : Nat} {ys : List D} {ts : List (List Nat)} {h : DH} {q : DQ} {x : DX} (hK : 1 ≤ K) (ht : Things ys ts) (h1 : ts.length ≤ 8) (h2 : ∀ w ∈ ts, WordOk w) (z : q (.str (TL.joinL [32] ts)) h) : (callD K).worded [.tup ys] h q x := by
  obtain ⟨k, rfl⟩ := Nat.exists_eq_add_of_le' hK
  rw [cd_worded]; simp only [tb_worded, body, dstart, dSeq, dIf, dAsg, dRet, dRetN, dNext, dDrop, dTest, dAnd, dOr, dNot, dAndV, dOrV, dNotV, dIfE, dOp, dUn, dC, dVar_e, dNil, dCons, dTup, dLst, dCall, dM1, dL1_e, dSl, oNo, oSo, gSet, gUn, gsCons, gsNil, dStI_e, dYes, ex_eq, ex_eq1, ex_bl, ex_str, ex_int, ex_ref, ex_tup, ex_cons, ex_lst1, ex_ins1, ex_ds, split_1, qin_str, qnin_str, append_, add_ii, add_ss, add_tt, sub_ii, mul_ii, mul_si, div_ii, mod_ii, pow_ii, lt_ii, le_ii, gt_ii, ge_ii, neg_i, eq_ii, eq_ss, ne_ii, ne_ss, qix_tup, qix_cl, qix_str, at0, at1, at2, at3, qlen_tup, qlen_cl, qlen_str, toI_i, toI_b, toI_s, toS_i, toS_s, qsl_tup, qsl_cl, qsl_str, List.map_cons, List.map_nil, List.length_cons, List.length_nil, List.replicate, List.cons_append, List.nil_append, List.getElem?_cons_zero, List.getElem?_cons_succ, List.set_cons_zero, List.set_cons_succ, true_and, and_true, Nat.reduceAdd, Nat.reduceSub, decide_eq_true_eq, dLc, iAny, dwipe]
  refine ⟨h, .refl _, comp_str (by simp) ys ts [] ht (by rw [ht.len]; simp; unfold sizeLine; omega) fun p hp => ?_⟩
  rw [List.nil_append, join_ref dup_same]
  exact ⟨wordsum h1 h2, wkq (le_ne hp) z⟩
theorem l_worded_ok {K : Nat} {ys : List D} {ts : List (List Nat)} {h : DH} {q : DQ} {x : DX} (hK : 1 ≤ K) (ht : Things ys ts) (h1 : ts.length ≤ 8) (h2 : ∀ w ∈ ts, WordOk w) (z : q (.str (TL.joinL [32] ts)) h) : (callD K).l_worded [.tup ys] h q x := by
  obtain ⟨k, rfl⟩ := Nat.exists_eq_add_of_le' hK
  rw [cd_l_worded]; simp only [tb_l_worded, body, dstart, dSeq, dIf, dAsg, dRet, dRetN, dNext, dDrop, dTest, dAnd, dOr, dNot, dAndV, dOrV, dNotV, dIfE, dOp, dUn, dC, dVar_e, dNil, dCons, dTup, dLst, dCall, dM1, dL1_e, dSl, oNo, oSo, gSet, gUn, gsCons, gsNil, dStI_e, dYes, ex_eq, ex_eq1, ex_bl, ex_str, ex_int, ex_ref, ex_tup, ex_cons, ex_lst1, ex_ins1, ex_ds, split_1, qin_str, qnin_str, append_, add_ii, add_ss, add_tt, sub_ii, mul_ii, mul_si, div_ii, mod_ii, pow_ii, lt_ii, le_ii, gt_ii, ge_ii, neg_i, eq_ii, eq_ss, ne_ii, ne_ss, qix_tup, qix_cl, qix_str, at0, at1, at2, at3, qlen_tup, qlen_cl, qlen_str, toI_i, toI_b, toI_s, toS_i, toS_s, qsl_tup, qsl_cl, qsl_str, List.map_cons, List.map_nil, List.length_cons, List.length_nil, List.replicate, List.cons_append, List.nil_append, List.getElem?_cons_zero, List.getElem?_cons_succ, List.set_cons_zero, List.set_cons_succ, true_and, and_true, Nat.reduceAdd, Nat.reduceSub, decide_eq_true_eq, dLc, iAny, dwipe]
  refine ⟨h, .refl _, comp_str (by simp) ys ts [] ht (by rw [ht.len]; simp; unfold sizeLine; omega) fun p hp => ?_⟩
  rw [List.nil_append, join_ref dup_same]
  exact ⟨wordsum h1 h2, wkq (le_ne hp) z⟩
/-! ### the rows keep within bounds -/
theorem num_word {n : Nat} (h : n < 10 ^ 18) : WordOk (TL.numL n) := ⟨TL.numL_ne n, TL.numL_len (by decide) h, TL.numL_free (.inl (by decide)), TL.numL_free (.inl (by decide))⟩
theorem name_word {z : List Nat} (h : NameW z) : WordOk z := ⟨h.ne, by have := h.le; omega, fun e => by have := (h.lets _ e).1; omega, fun e => by have := (h.lets _ e).1; omega⟩
theorem nums_word {xs : List Nat} (h : Nums xs) : ∀ w ∈ xs.map TL.numL, WordOk w := by
  intro w hw
  obtain ⟨a, ha, rfl⟩ := List.mem_map.mp hw
  exact num_word (h.2 a ha)
theorem leaf_words {w : D} {ws : List (List Nat)} (l : Leaf w ws) : ws ≠ [] ∧ ws.length ≤ 3 ∧ ∀ z ∈ ws, WordOk z := by
  rcases l with ⟨a, b, ha, hb, rfl, rfl⟩ | ⟨a, b, ha, hb, rfl, rfl⟩ | ⟨a, ha, rfl, rfl⟩
  all_goals refine ⟨by simp, by simp, ?_⟩; intro z hz; simp only [List.mem_cons, List.not_mem_nil, or_false] at hz
  · rcases hz with rfl | rfl | rfl
    · exact ⟨by decide, by decide, by decide, by decide⟩
    · exact num_word ha
    · exact num_word hb
  · rcases hz with rfl | rfl | rfl
    · exact ⟨by decide, by decide, by decide, by decide⟩
    · exact num_word ha
    · exact num_word hb
  · rcases hz with rfl | rfl
    · exact ⟨by decide, by decide, by decide, by decide⟩
    · exact num_word (by omega)
def WGood (W : WT) (i : Nat) : Prop := ∀ w ws rs sz, W i w ws rs sz → ws ≠ [] ∧ ws.length ≤ 3 ∧ (∀ z ∈ ws, WordOk z) ∧ (∀ r ∈ rs, RowOk r) ∧ rs.length ≤ 2 + 3 * sz
theorem sts_good {W : WT} {i : Nat} (hi : i ≤ 8) (hW : WGood W i) : ∀ {xs : List D} {rs : List Row} {sz : Nat}, StsF W i xs rs sz → (∀ r ∈ rs, RowOk r) ∧ rs.length ≤ 3 * sz
  | [], _, _, ⟨e1, e2⟩ => by subst e1 e2; simp
  | x :: r, rs, sz, ⟨n, held, w, ws, r1, s1, r2, s2, _, hn, hh, hw, e1, h2, e2⟩ => by
    subst e1 e2
    obtain ⟨a1, a2, a3, a4, a5⟩ := hW _ _ _ _ hw
    obtain ⟨i1, i2⟩ := sts_good hi hW h2
    refine ⟨fun r hr => ?_, by simp only [List.length_cons, List.length_append]; omega⟩
    rcases List.mem_cons.mp hr with e | hr
    · subst e
      refine ⟨hi, by simp, by have := hh.1; simp; omega, fun z hz => ?_⟩
      rcases List.mem_cons.mp hz with e | hz
      · rw [e]; exact num_word (by omega)
      · rcases List.mem_append.mp hz with hz | hz
        · exact nums_word hh z hz
        · rcases List.mem_cons.mp hz with e | hz
          · rw [e]; exact ⟨by decide, by decide, by decide, by decide⟩
          · exact a3 z hz
    · rcases List.mem_append.mp hr with hr | hr
      · exact a4 r hr
      · exact i1 r hr
theorem ch_good {W : WT} {i : Nat} (hi : i ≤ 7) (hW : WGood W (i + 1)) {c : D} {rs : List Row} {sz : Nat} (h : ChF W i c rs sz) : (∀ r ∈ rs, RowOk r) ∧ rs.length ≤ 2 + 3 * sz := by
  obtain ⟨nm, args, sts, ans, r1, rfl, hn, ha, hans, hs, rfl⟩ := h
  obtain ⟨i1, i2⟩ := sts_good (by omega) hW hs
  refine ⟨fun r hr => ?_, by simp only [List.length_cons, List.length_append, List.length_nil]; omega⟩
  rcases List.mem_cons.mp hr with e | hr
  · subst e
    refine ⟨by omega, by simp, by have := ha.1; simp; omega, fun z hz => ?_⟩
    rcases List.mem_cons.mp hz with e | hz
    · rw [e]; exact ⟨by decide, by decide, by decide, by decide⟩
    · rcases List.mem_cons.mp hz with e | hz
      · rw [e]; exact name_word hn
      · exact nums_word ha z hz
  · rcases List.mem_append.mp hr with hr | hr
    · exact i1 r hr
    · rw [List.mem_singleton.mp hr]
      refine ⟨by omega, by simp, by simp, fun z hz => ?_⟩
      rcases List.mem_cons.mp hz with e | hz
      · rw [e]; exact ⟨by decide, by decide, by decide, by decide⟩
      · rw [List.mem_singleton.mp hz]; exact num_word hans
theorem wh_good : ∀ (d i : Nat), i + d ≤ 7 → WGood (WhR d) i
  | 0, i, _ => fun w ws rs sz ⟨l, e1, e2⟩ => by
    subst e1 e2
    obtain ⟨a, b, c⟩ := leaf_words l
    exact ⟨a, b, c, by simp, by simp⟩
  | d + 1, i, h => fun w ws rs sz hw => by
    rcases hw with ⟨l, rfl, rfl⟩ | ⟨c, rfl, rfl, hc⟩
    · obtain ⟨a, b, c⟩ := leaf_words l
      exact ⟨a, b, c, by simp, by simp⟩
    · obtain ⟨a, b⟩ := ch_good (by omega) (wh_good d (i + 1) (by omega)) hc
      exact ⟨by simp, by simp, by intro z hz; rw [List.mem_singleton.mp hz]; exact ⟨by decide, by decide, by decide, by decide⟩, a, b⟩
end k60

set_option Elab.async false
set_option linter.all false
set_option maxRecDepth 100000
set_option maxHeartbeats 1000000
namespace k60
open PySem PySem.Spec PyProof.Rows L2 ML
def RowsOk (K d : Nat) : Prop := ∀ {c : D} {i : Nat} {rs : List Row} {sz : Nat} {h : DH} {q : DQ} {x : DX}, ChF (WhR d) i c rs sz → (∀ r ∈ rs, RowOk r) → rs.length ≤ 1000 → (∀ p, h p = none → q (.ref p) (dup h p (.lst (txs rs)))) →
  (callD K).chain_rows [c, .str (bl i)] h q x
theorem word_le {a : List Nat} (h : a.length ≤ 200) {b : List Nat} (h2 : b.length ≤ 200) : a.length + b.length ≤ sizeLine := by unfold sizeLine; omega
theorem bl_len {i : Nat} (h : i ≤ 8) : (bl i).length ≤ 16 := by unfold bl; rw [List.length_replicate]; omega
theorem joined {ts : List (List Nat)} (h1 : ts.length ≤ 8) (h2 : ∀ w ∈ ts, WordOk w) : (TL.joinL [32] ts).length ≤ 152 := by
  have h := joinL_len (n := 18) (ws := ts) fun w hw => (h2 w hw).le
  have : ts.length * (18 + 1) ≤ 8 * 19 := Nat.mul_le_mul h1 (Nat.le_refl _)
  omega
theorem txs_cons (r : Row) (rs : List Row) : txs (r :: rs) = .str (rowT r) :: txs rs := rfl
theorem txs_app (a b : List Row) : txs (a ++ b) = txs a ++ txs b := by unfold txs; rw [List.map_append, List.map_append]
theorem txs_len (a : List Row) : (txs a).length = a.length := by unfold txs; rw [List.length_map, List.length_map]
theorem whr_cases {d i : Nat} {w : D} {ws : List (List Nat)} {rs : List Row} {sz : Nat} (h : WhR d i w ws rs sz) : (Leaf w ws ∧ rs = [] ∧ sz = 0) ∨ (∃ d' c, d = d' + 1 ∧ w = .tup [.str wCALL, c] ∧ ws = [wCALL] ∧ ChF (WhR d') i c rs sz) := by
  cases d with
  | zero => exact .inl h
  | succ d => exact h.imp id fun ⟨c, a, b, e⟩ => ⟨d, c, rfl, a, b, e⟩
theorem leaf_head {w : D} {ws : List (List Nat)} (l : Leaf w ws) : ∃ hd ds, w = .tup (.str hd :: ds) ∧ hd ≠ wCALL ∧ Things (.str hd :: ds) ws ∧ ds.length ≤ 2 := by
  rcases l with ⟨a, b, ha, hb, rfl, rfl⟩ | ⟨a, b, ha, hb, rfl, rfl⟩ | ⟨a, ha, rfl, rfl⟩
  · exact ⟨_, _, rfl, by decide, ⟨.inl rfl, .inr ⟨a, ha, rfl, rfl⟩, .inr ⟨b, hb, rfl, rfl⟩, trivial⟩, by simp⟩
  · exact ⟨_, _, rfl, by decide, ⟨.inl rfl, .inr ⟨a, ha, rfl, rfl⟩, .inr ⟨b, hb, rfl, rfl⟩, trivial⟩, by simp⟩
  · exact ⟨_, _, rfl, by decide, ⟨.inl rfl, .inr ⟨a, by omega, rfl, rfl⟩, trivial⟩, by simp⟩
/-- a step's row, in two parts -/
theorem row_two {i : Nat} {a b : List (List Nat)} (ha : a ≠ []) (hb : b ≠ []) : bl i ++ [32, 32] ++ TL.joinL [32] a ++ [32] ++ TL.joinL [32] b = rowT (i + 1, a ++ b) := by
  unfold rowT
  rw [joinL_app ha hb, bl_succ]; simp only [List.append_assoc]
theorem step_head {i n : Nat} {held : List Nat} {ws : List (List Nat)} (hr : RowOk (i + 1, TL.numL n :: (held.map TL.numL ++ [58] :: ws))) (hw : ws ≠ []) :
    (TL.numL n :: (held.map TL.numL ++ [[58]])).length ≤ 8 ∧ ∀ w ∈ TL.numL n :: (held.map TL.numL ++ [[58]]), WordOk w := by
  have e : TL.numL n :: (held.map TL.numL ++ [58] :: ws) = (TL.numL n :: (held.map TL.numL ++ [[58]])) ++ ws := by simp
  have h1 := hr.le
  have h2 := hr.ws
  simp only [e] at h1 h2
  exact ⟨by rw [List.length_append] at h1; omega, fun w hw => h2 w (List.mem_append_left _ hw)⟩
theorem rows_ok {K d : Nat} (hK : 1 ≤ K) (hc : ∀ d', d = d' + 1 → RowsOk K d') : RowsOk (K + 1) d := by
  intro c i rs sz h q x hch hr hl z
  obtain ⟨nm, args, sts, ans, r1, rfl, hn, ha, hans, hs, rfl⟩ := hch
  have b0 : i ≤ 8 := (hr _ (List.mem_cons_self ..)).dep
  have r0 := hr _ (List.mem_cons_self ..)
  have rl := hr (i, [wBACK, TL.numL ans]) (by simp)
  have hr1 : ∀ r ∈ r1, RowOk r := fun r h => hr r (by simp [h])
  simp only [List.length_cons, List.length_append, List.length_nil] at hl
  have bi := bl_len b0
  rw [cd_chain_rows]; simp only [tb_chain_rows, tb_chain_rows_4, tb_chain_rows_3, body, dstart, dSeq, dIf, dAsg, dRet, dRetN, dNext, dDrop, dTest, dAnd, dOr, dNot, dAndV, dOrV, dNotV, dIfE, dOp, dUn, dC, dVar_e, dNil, dCons, dTup, dLst, dCall, dM1, dL1_e, dSl, oNo, oSo, gSet, gUn, gsCons, gsNil, dStI_e, dYes, ex_eq, ex_eq1, ex_bl, ex_str, ex_int, ex_ref, ex_tup, ex_cons, ex_lst1, ex_ins1, ex_ds, split_1, qin_str, qnin_str, append_, add_ii, add_ss, add_tt, sub_ii, mul_ii, mul_si, div_ii, mod_ii, pow_ii, lt_ii, le_ii, gt_ii, ge_ii, neg_i, eq_ii, eq_ss, ne_ii, ne_ss, qix_tup, qix_cl, qix_str, at0, at1, at2, at3, qlen_tup, qlen_cl, qlen_str, toI_i, toI_b, toI_s, toS_i, toS_s, qsl_tup, qsl_cl, qsl_str, List.map_cons, List.map_nil, List.length_cons, List.length_nil, List.replicate, List.cons_append, List.nil_append, List.getElem?_cons_zero, List.getElem?_cons_succ, List.set_cons_zero, List.set_cons_succ, true_and, and_true, Nat.reduceAdd, Nat.reduceSub, decide_eq_true_eq]
  refine ⟨by decide, by have := ha.1; unfold nts; rw [List.length_map]; unfold sizeLine; omega, worded_ok hK (ts := wCHAIN :: nm :: args.map TL.numL) ⟨.inl rfl, .inl rfl, things_nts ha.2⟩ r0.le r0.ws ?_⟩
  simp only [body, dstart, dSeq, dIf, dAsg, dRet, dRetN, dNext, dDrop, dTest, dAnd, dOr, dNot, dAndV, dOrV, dNotV, dIfE, dOp, dUn, dC, dVar_e, dNil, dCons, dTup, dLst, dCall, dM1, dL1_e, dSl, oNo, oSo, gSet, gUn, gsCons, gsNil, dStI_e, dYes, ex_eq, ex_eq1, ex_bl, ex_str, ex_int, ex_ref, ex_tup, ex_cons, ex_lst1, ex_ins1, ex_ds, split_1, qin_str, qnin_str, append_, add_ii, add_ss, add_tt, sub_ii, mul_ii, mul_si, div_ii, mod_ii, pow_ii, lt_ii, le_ii, gt_ii, ge_ii, neg_i, eq_ii, eq_ss, ne_ii, ne_ss, qix_tup, qix_cl, qix_str, at0, at1, at2, at3, qlen_tup, qlen_cl, qlen_str, toI_i, toI_b, toI_s, toS_i, toS_s, qsl_tup, qsl_cl, qsl_str, List.map_cons, List.map_nil, List.length_cons, List.length_nil, List.replicate, List.cons_append, List.nil_append, List.getElem?_cons_zero, List.getElem?_cons_succ, List.set_cons_zero, List.set_cons_succ, true_and, and_true, Nat.reduceAdd, Nat.reduceSub, decide_eq_true_eq]
  refine ⟨word_le (by omega) (by have := joined (ts := wCHAIN :: nm :: args.map TL.numL) r0.le r0.ws; omega), by decide, fun p hp => ?_⟩
  simp only [dFor, iAny, body, dstart, dSeq, dIf, dAsg, dRet, dRetN, dNext, dDrop, dTest, dAnd, dOr, dNot, dAndV, dOrV, dNotV, dIfE, dOp, dUn, dC, dVar_e, dNil, dCons, dTup, dLst, dCall, dM1, dL1_e, dSl, oNo, oSo, gSet, gUn, gsCons, gsNil, dStI_e, dYes, ex_eq, ex_eq1, ex_bl, ex_str, ex_int, ex_ref, ex_tup, ex_cons, ex_lst1, ex_ins1, ex_ds, split_1, qin_str, qnin_str, append_, add_ii, add_ss, add_tt, sub_ii, mul_ii, mul_si, div_ii, mod_ii, pow_ii, lt_ii, le_ii, gt_ii, ge_ii, neg_i, eq_ii, eq_ss, ne_ii, ne_ss, qix_tup, qix_cl, qix_str, at0, at1, at2, at3, qlen_tup, qlen_cl, qlen_str, toI_i, toI_b, toI_s, toS_i, toS_s, qsl_tup, qsl_cl, qsl_str, List.map_cons, List.map_nil, List.length_cons, List.length_nil, List.replicate, List.cons_append, List.nil_append, List.getElem?_cons_zero, List.getElem?_cons_succ, List.set_cons_zero, List.set_cons_succ, true_and, and_true, Nat.reduceAdd, Nat.reduceSub, decide_eq_true_eq]
  refine wk0 (for_ind (fun rem s hh => ∃ (done rest : List Row) (szr : Nat) (v7 v8 v9 v10 : Option D), StsF (WhR d) (i + 1) rem rest szr ∧ done ++ rest = r1 ∧ Le (dup h p (.lst (txs ((i, wCHAIN :: nm :: args.map TL.numL) :: done)))) hh ∧
    s = [some (D.tup [D.str nm, D.tup (nts args), D.tup sts, D.int ans]), some (D.str (bl i)), some (D.str nm), some (D.tup (nts args)), some (D.tup sts), some (D.int ans), some (D.ref p), v7, v8, v9, v10]) ?_ ?_ _ _ _ ⟨[], r1, sz, _, _, _, _, hs, rfl, .refl _, rfl⟩)
  · rintro s hh ⟨done, rest, szr, v7, v8, v9, v10, ⟨rfl, rfl⟩, e, hle, rfl⟩
    rw [List.append_nil] at e
    subst e
    have ep : hh p = some (.lst (txs ((i, wCHAIN :: nm :: args.map TL.numL) :: done))) := hle _ _ dup_same
    simp only [body, dstart, dSeq, dIf, dAsg, dRet, dRetN, dNext, dDrop, dTest, dAnd, dOr, dNot, dAndV, dOrV, dNotV, dIfE, dOp, dUn, dC, dVar_e, dNil, dCons, dTup, dLst, dCall, dM1, dL1_e, dSl, oNo, oSo, gSet, gUn, gsCons, gsNil, dStI_e, dYes, ex_eq, ex_eq1, ex_bl, ex_str, ex_int, ex_ref, ex_tup, ex_cons, ex_lst1, ex_ins1, ex_ds, split_1, qin_str, qnin_str, append_, add_ii, add_ss, add_tt, sub_ii, mul_ii, mul_si, div_ii, mod_ii, pow_ii, lt_ii, le_ii, gt_ii, ge_ii, neg_i, eq_ii, eq_ss, ne_ii, ne_ss, qix_tup, qix_cl, qix_str, at0, at1, at2, at3, qlen_tup, qlen_cl, qlen_str, toI_i, toI_b, toI_s, toS_i, toS_s, qsl_tup, qsl_cl, qsl_str, List.map_cons, List.map_nil, List.length_cons, List.length_nil, List.replicate, List.cons_append, List.nil_append, List.getElem?_cons_zero, List.getElem?_cons_succ, List.set_cons_zero, List.set_cons_succ, true_and, and_true, Nat.reduceAdd, Nat.reduceSub, decide_eq_true_eq]
    refine ⟨by decide, worded_ok hK (ts := [wBACK, TL.numL ans]) ⟨.inl rfl, .inr ⟨ans, hans, rfl, rfl⟩, trivial⟩ rl.le rl.ws ?_⟩
    simp only [body, dstart, dSeq, dIf, dAsg, dRet, dRetN, dNext, dDrop, dTest, dAnd, dOr, dNot, dAndV, dOrV, dNotV, dIfE, dOp, dUn, dC, dVar_e, dNil, dCons, dTup, dLst, dCall, dM1, dL1_e, dSl, oNo, oSo, gSet, gUn, gsCons, gsNil, dStI_e, dYes, ex_eq, ex_eq1, ex_bl, ex_str, ex_int, ex_ref, ex_tup, ex_cons, ex_lst1, ex_ins1, ex_ds, split_1, qin_str, qnin_str, append_, add_ii, add_ss, add_tt, sub_ii, mul_ii, mul_si, div_ii, mod_ii, pow_ii, lt_ii, le_ii, gt_ii, ge_ii, neg_i, eq_ii, eq_ss, ne_ii, ne_ss, qix_tup, qix_cl, qix_str, at0, at1, at2, at3, qlen_tup, qlen_cl, qlen_str, toI_i, toI_b, toI_s, toS_i, toS_s, qsl_tup, qsl_cl, qsl_str, List.map_cons, List.map_nil, List.length_cons, List.length_nil, List.replicate, List.cons_append, List.nil_append, List.getElem?_cons_zero, List.getElem?_cons_succ, List.set_cons_zero, List.set_cons_succ, true_and, and_true, Nat.reduceAdd, Nat.reduceSub, decide_eq_true_eq]
    refine ⟨word_le (by omega) (by have := joined (ts := [wBACK, TL.numL ans]) rl.le rl.ws; omega), by decide, fun p2 hp2 => ?_⟩
    have ne : p ≠ p2 := free_ne ep hp2
    rw [add_ll (show dup hh p2 _ p = _ by rw [dup_ne ne]; exact ep) dup_same]
    refine ⟨by rw [txs_len]; simp; unfold sizeLine; omega, fun p3 hp3 => ?_⟩
    have hl3 : h p3 = none := by
      cases e : h p3 with
      | none => rfl
      | some o =>
        have n1 : p3 ≠ p := free_ne e hp
        have := hle p3 o (by rw [dup_ne n1]; exact e)
        have n2 : p3 ≠ p2 := free_ne this hp2
        rw [dup_ne n2, this] at hp3; cases hp3
    have ec : txs ((i, wCHAIN :: nm :: args.map TL.numL) :: (done ++ [(i, [wBACK, TL.numL ans])])) = txs ((i, wCHAIN :: nm :: args.map TL.numL) :: done) ++ [.str (bl i ++ TL.joinL [32] [wBACK, TL.numL ans])] := by
      rw [← List.cons_append, txs_app]; rfl
    have zz := z p3 hl3
    rw [ec] at zz
    refine wkq ?_ zz
    intro a o e
    have := hle a o
    simp only [dup] at this e hp2 hp3 ⊢
    grind
  · rintro y rem s hh ⟨done, rest, szr, v7, v8, v9, v10, ⟨n, held, w, ws, r1', s1, r2, s2, rfl, hn', hd, hw, rfl, h2, rfl⟩, e, hle, rfl⟩
    refine ⟨trivial, fun F hF => ?_⟩
    subst e
    have rr : RowOk (i + 1, TL.numL n :: (held.map TL.numL ++ [58] :: ws)) := hr1 _ (by simp)
    have ep : hh p = some (.lst (txs ((i, wCHAIN :: nm :: args.map TL.numL) :: done))) := hle _ _ dup_same
    have wne : ws ≠ [] := by
      rcases whr_cases hw with ⟨l, _, _⟩ | ⟨_, _, _, _, e, _⟩
      · exact (leaf_words l).1
      · rw [e]; simp
    have wwk : ∀ z ∈ ws, WordOk z := fun z hz => rr.ws z (by simp [hz])
    have wle : ws.length ≤ 8 := by have := rr.le; simp at this; omega
    obtain ⟨hl8, hw8⟩ := step_head rr wne
    have jA := joined hl8 hw8
    have jw := joined wle wwk
    have hbl : (bl i ++ [32, 32] ++ TL.joinL [32] (TL.numL n :: (held.map TL.numL ++ [[58]])) ++ [32]).length ≤ 171 := by
      simp only [List.length_append, List.length_cons, List.length_nil]; omega
    simp only [tb_chain_rows_2, tb_chain_rows_1, body, dstart, dSeq, dIf, dAsg, dRet, dRetN, dNext, dDrop, dTest, dAnd, dOr, dNot, dAndV, dOrV, dNotV, dIfE, dOp, dUn, dC, dVar_e, dNil, dCons, dTup, dLst, dCall, dM1, dL1_e, dSl, oNo, oSo, gSet, gUn, gsCons, gsNil, dStI_e, dYes, ex_eq, ex_eq1, ex_bl, ex_str, ex_int, ex_ref, ex_tup, ex_cons, ex_lst1, ex_ins1, ex_ds, split_1, qin_str, qnin_str, append_, add_ii, add_ss, add_tt, sub_ii, mul_ii, mul_si, div_ii, mod_ii, pow_ii, lt_ii, le_ii, gt_ii, ge_ii, neg_i, eq_ii, eq_ss, ne_ii, ne_ss, qix_tup, qix_cl, qix_str, at0, at1, at2, at3, qlen_tup, qlen_cl, qlen_str, toI_i, toI_b, toI_s, toS_i, toS_s, qsl_tup, qsl_cl, qsl_str, List.map_cons, List.map_nil, List.length_cons, List.length_nil, List.replicate, List.cons_append, List.nil_append, List.getElem?_cons_zero, List.getElem?_cons_succ, List.set_cons_zero, List.set_cons_succ, true_and, and_true, Nat.reduceAdd, Nat.reduceSub, decide_eq_true_eq]
    refine ⟨by unfold sizeLine; omega, by decide, by have := hd.1; unfold nts; rw [List.length_map]; unfold sizeLine; omega, by decide, by have := hd.1; unfold nts; simp only [List.length_append, List.length_map, List.length_cons, List.length_nil]; unfold sizeLine; omega,
      worded_ok hK (ts := TL.numL n :: (held.map TL.numL ++ [[58]])) ⟨.inr ⟨n, by omega, rfl, rfl⟩, (things_nts hd.2).app ⟨.inl rfl, trivial⟩⟩ hl8 hw8 ?_⟩
    simp only [body, dstart, dSeq, dIf, dAsg, dRet, dRetN, dNext, dDrop, dTest, dAnd, dOr, dNot, dAndV, dOrV, dNotV, dIfE, dOp, dUn, dC, dVar_e, dNil, dCons, dTup, dLst, dCall, dM1, dL1_e, dSl, oNo, oSo, gSet, gUn, gsCons, gsNil, dStI_e, dYes, ex_eq, ex_eq1, ex_bl, ex_str, ex_int, ex_ref, ex_tup, ex_cons, ex_lst1, ex_ins1, ex_ds, split_1, qin_str, qnin_str, append_, add_ii, add_ss, add_tt, sub_ii, mul_ii, mul_si, div_ii, mod_ii, pow_ii, lt_ii, le_ii, gt_ii, ge_ii, neg_i, eq_ii, eq_ss, ne_ii, ne_ss, qix_tup, qix_cl, qix_str, at0, at1, at2, at3, qlen_tup, qlen_cl, qlen_str, toI_i, toI_b, toI_s, toS_i, toS_s, qsl_tup, qsl_cl, qsl_str, List.map_cons, List.map_nil, List.length_cons, List.length_nil, List.replicate, List.cons_append, List.nil_append, List.getElem?_cons_zero, List.getElem?_cons_succ, List.set_cons_zero, List.set_cons_succ, true_and, and_true, Nat.reduceAdd, Nat.reduceSub, decide_eq_true_eq]
    refine ⟨by simp only [List.length_append, List.length_cons, List.length_nil]; unfold sizeLine; omega, by simp only [List.length_append, List.length_cons, List.length_nil]; unfold sizeLine; omega, ?_⟩
    generalize hA : bl i ++ [32, 32] ++ TL.joinL [32] (TL.numL n :: (held.map TL.numL ++ [[58]])) ++ [32] = ah at hbl ⊢
    have row : ah ++ TL.joinL [32] ws = rowT (i + 1, TL.numL n :: (held.map TL.numL ++ [58] :: ws)) := by
      rw [← hA, row_two (by simp) wne]; simp
    have tl (rs' : List Row) : txs ((i, wCHAIN :: nm :: args.map TL.numL) :: (done ++ (i + 1, TL.numL n :: (held.map TL.numL ++ [58] :: ws)) :: rs')) = txs ((i, wCHAIN :: nm :: args.map TL.numL) :: done) ++ .str (ah ++ TL.joinL [32] ws) :: txs rs' := by
      rw [← List.cons_append, txs_app, row]; rfl
    have ln : (txs ((i, wCHAIN :: nm :: args.map TL.numL) :: done)).length ≤ 1000 := by
      rw [txs_len]; simp only [List.length_cons, List.length_append] at hl ⊢; omega
    rcases whr_cases hw with ⟨l, rfl, rfl⟩ | ⟨d', c, rfl, rfl, rfl, hch⟩
    · obtain ⟨hd', ds, rfl, hne, ht, hdl⟩ := leaf_head l
      simp only [body, dstart, dSeq, dIf, dAsg, dRet, dRetN, dNext, dDrop, dTest, dAnd, dOr, dNot, dAndV, dOrV, dNotV, dIfE, dOp, dUn, dC, dVar_e, dNil, dCons, dTup, dLst, dCall, dM1, dL1_e, dSl, oNo, oSo, gSet, gUn, gsCons, gsNil, dStI_e, dYes, ex_eq, ex_eq1, ex_bl, ex_str, ex_int, ex_ref, ex_tup, ex_cons, ex_lst1, ex_ins1, ex_ds, split_1, qin_str, qnin_str, append_, add_ii, add_ss, add_tt, sub_ii, mul_ii, mul_si, div_ii, mod_ii, pow_ii, lt_ii, le_ii, gt_ii, ge_ii, neg_i, eq_ii, eq_ss, ne_ii, ne_ss, qix_tup, qix_cl, qix_str, at0, at1, at2, at3, qlen_tup, qlen_cl, qlen_str, toI_i, toI_b, toI_s, toS_i, toS_s, qsl_tup, qsl_cl, qsl_str, List.map_cons, List.map_nil, List.length_cons, List.length_nil, List.replicate, List.cons_append, List.nil_append, List.getElem?_cons_zero, List.getElem?_cons_succ, List.set_cons_zero, List.set_cons_succ, true_and, and_true, Nat.reduceAdd, Nat.reduceSub, decide_eq_true_eq]
      rw [if_neg (show ¬ hd' = [99, 97, 108, 108] from hne), l1_ ep]
      simp only [body, dstart, dSeq, dIf, dAsg, dRet, dRetN, dNext, dDrop, dTest, dAnd, dOr, dNot, dAndV, dOrV, dNotV, dIfE, dOp, dUn, dC, dVar_e, dNil, dCons, dTup, dLst, dCall, dM1, dL1_e, dSl, oNo, oSo, gSet, gUn, gsCons, gsNil, dStI_e, dYes, ex_eq, ex_eq1, ex_bl, ex_str, ex_int, ex_ref, ex_tup, ex_cons, ex_lst1, ex_ins1, ex_ds, split_1, qin_str, qnin_str, append_, add_ii, add_ss, add_tt, sub_ii, mul_ii, mul_si, div_ii, mod_ii, pow_ii, lt_ii, le_ii, gt_ii, ge_ii, neg_i, eq_ii, eq_ss, ne_ii, ne_ss, qix_tup, qix_cl, qix_str, at0, at1, at2, at3, qlen_tup, qlen_cl, qlen_str, toI_i, toI_b, toI_s, toS_i, toS_s, qsl_tup, qsl_cl, qsl_str, List.map_cons, List.map_nil, List.length_cons, List.length_nil, List.replicate, List.cons_append, List.nil_append, List.getElem?_cons_zero, List.getElem?_cons_succ, List.set_cons_zero, List.set_cons_succ, true_and, and_true, Nat.reduceAdd, Nat.reduceSub, decide_eq_true_eq]
      refine worded_ok hK ht wle wwk ?_
      simp only [body, dstart, dSeq, dIf, dAsg, dRet, dRetN, dNext, dDrop, dTest, dAnd, dOr, dNot, dAndV, dOrV, dNotV, dIfE, dOp, dUn, dC, dVar_e, dNil, dCons, dTup, dLst, dCall, dM1, dL1_e, dSl, oNo, oSo, gSet, gUn, gsCons, gsNil, dStI_e, dYes, ex_eq, ex_eq1, ex_bl, ex_str, ex_int, ex_ref, ex_tup, ex_cons, ex_lst1, ex_ins1, ex_ds, split_1, qin_str, qnin_str, append_, add_ii, add_ss, add_tt, sub_ii, mul_ii, mul_si, div_ii, mod_ii, pow_ii, lt_ii, le_ii, gt_ii, ge_ii, neg_i, eq_ii, eq_ss, ne_ii, ne_ss, qix_tup, qix_cl, qix_str, at0, at1, at2, at3, qlen_tup, qlen_cl, qlen_str, toI_i, toI_b, toI_s, toS_i, toS_s, qsl_tup, qsl_cl, qsl_str, List.map_cons, List.map_nil, List.length_cons, List.length_nil, List.replicate, List.cons_append, List.nil_append, List.getElem?_cons_zero, List.getElem?_cons_succ, List.set_cons_zero, List.set_cons_succ, true_and, and_true, Nat.reduceAdd, Nat.reduceSub, decide_eq_true_eq]
      refine ⟨by unfold sizeLine; omega, _, ep, by unfold sizeLine; omega, hF _ _ _ (dup h p (.lst (txs ((i, wCHAIN :: nm :: args.map TL.numL) :: (done ++ [(i + 1, TL.numL n :: (held.map TL.numL ++ [58] :: ws))])))))
        ⟨rfl, fun _ _ e => e⟩ ?_ ⟨_, r2, s2, _, _, _, _, h2, by simp, .refl _, rfl⟩⟩
      rw [tl []]
      intro a o e
      have := hle a o
      simp only [dup] at this e ⊢
      grind [txs]
    · simp only [body, dstart, dSeq, dIf, dAsg, dRet, dRetN, dNext, dDrop, dTest, dAnd, dOr, dNot, dAndV, dOrV, dNotV, dIfE, dOp, dUn, dC, dVar_e, dNil, dCons, dTup, dLst, dCall, dM1, dL1_e, dSl, oNo, oSo, gSet, gUn, gsCons, gsNil, dStI_e, dYes, ex_eq, ex_eq1, ex_bl, ex_str, ex_int, ex_ref, ex_tup, ex_cons, ex_lst1, ex_ins1, ex_ds, split_1, qin_str, qnin_str, append_, add_ii, add_ss, add_tt, sub_ii, mul_ii, mul_si, div_ii, mod_ii, pow_ii, lt_ii, le_ii, gt_ii, ge_ii, neg_i, eq_ii, eq_ss, ne_ii, ne_ss, qix_tup, qix_cl, qix_str, at0, at1, at2, at3, qlen_tup, qlen_cl, qlen_str, toI_i, toI_b, toI_s, toS_i, toS_s, qsl_tup, qsl_cl, qsl_str, List.map_cons, List.map_nil, List.length_cons, List.length_nil, List.replicate, List.cons_append, List.nil_append, List.getElem?_cons_zero, List.getElem?_cons_succ, List.set_cons_zero, List.set_cons_succ, true_and, and_true, Nat.reduceAdd, Nat.reduceSub, decide_eq_true_eq]
      rw [if_pos (show wCALL = [99, 97, 108, 108] from rfl), l1_ ep]
      simp only [body, dstart, dSeq, dIf, dAsg, dRet, dRetN, dNext, dDrop, dTest, dAnd, dOr, dNot, dAndV, dOrV, dNotV, dIfE, dOp, dUn, dC, dVar_e, dNil, dCons, dTup, dLst, dCall, dM1, dL1_e, dSl, oNo, oSo, gSet, gUn, gsCons, gsNil, dStI_e, dYes, ex_eq, ex_eq1, ex_bl, ex_str, ex_int, ex_ref, ex_tup, ex_cons, ex_lst1, ex_ins1, ex_ds, split_1, qin_str, qnin_str, append_, add_ii, add_ss, add_tt, sub_ii, mul_ii, mul_si, div_ii, mod_ii, pow_ii, lt_ii, le_ii, gt_ii, ge_ii, neg_i, eq_ii, eq_ss, ne_ii, ne_ss, qix_tup, qix_cl, qix_str, at0, at1, at2, at3, qlen_tup, qlen_cl, qlen_str, toI_i, toI_b, toI_s, toS_i, toS_s, qsl_tup, qsl_cl, qsl_str, List.map_cons, List.map_nil, List.length_cons, List.length_nil, List.replicate, List.cons_append, List.nil_append, List.getElem?_cons_zero, List.getElem?_cons_succ, List.set_cons_zero, List.set_cons_succ, true_and, and_true, Nat.reduceAdd, Nat.reduceSub, decide_eq_true_eq]
      refine ⟨by unfold sizeLine; omega, _, ep, by unfold sizeLine; omega, ?_⟩
      rw [l1_ dup_same]
      simp only [body, dstart, dSeq, dIf, dAsg, dRet, dRetN, dNext, dDrop, dTest, dAnd, dOr, dNot, dAndV, dOrV, dNotV, dIfE, dOp, dUn, dC, dVar_e, dNil, dCons, dTup, dLst, dCall, dM1, dL1_e, dSl, oNo, oSo, gSet, gUn, gsCons, gsNil, dStI_e, dYes, ex_eq, ex_eq1, ex_bl, ex_str, ex_int, ex_ref, ex_tup, ex_cons, ex_lst1, ex_ins1, ex_ds, split_1, qin_str, qnin_str, append_, add_ii, add_ss, add_tt, sub_ii, mul_ii, mul_si, div_ii, mod_ii, pow_ii, lt_ii, le_ii, gt_ii, ge_ii, neg_i, eq_ii, eq_ss, ne_ii, ne_ss, qix_tup, qix_cl, qix_str, at0, at1, at2, at3, qlen_tup, qlen_cl, qlen_str, toI_i, toI_b, toI_s, toS_i, toS_s, qsl_tup, qsl_cl, qsl_str, List.map_cons, List.map_nil, List.length_cons, List.length_nil, List.replicate, List.cons_append, List.nil_append, List.getElem?_cons_zero, List.getElem?_cons_succ, List.set_cons_zero, List.set_cons_succ, true_and, and_true, Nat.reduceAdd, Nat.reduceSub, decide_eq_true_eq]
      refine ⟨by unfold sizeLine; omega, ?_⟩
      rw [bl_succ]
      have hsub : ∀ r ∈ r1', RowOk r := fun r h => hr1 r (by simp [h])
      have hln : (r1'.length ≤ 1000) := by simp only [List.length_cons, List.length_append] at hl; omega
      refine hc d' rfl hch hsub hln fun p4 hp4 => ?_
      have n4 : p4 ≠ p := by simp only [dup] at hp4; grind
      refine ⟨_, (dup_ne (Ne.symm n4)).trans dup_same, p4, _, rfl, dup_same, by rw [txs_len, List.length_append]; simp only [List.length_cons, List.length_nil]; unfold sizeLine; omega, ?_⟩
      refine hF _ _ _ (dup h p (.lst (txs ((i, wCHAIN :: nm :: args.map TL.numL) :: (done ++ (i + 1, TL.numL n :: (held.map TL.numL ++ [58] :: [wCALL])) :: r1'))))) ⟨rfl, fun _ _ e => e⟩ ?_ ⟨_, r2, s2, _, _, _, _, h2, by simp, .refl _, rfl⟩
      rw [tl r1']
      have ew : (ah ++ TL.joinL [32] [wCALL]) = ah ++ [99, 97, 108, 108] := rfl
      rw [ew]
      intro a o e
      have := hle a o
      simp only [dup, List.append_assoc, List.cons_append, List.nil_append] at this e hp4 ⊢
      grind
theorem rows_all : ∀ d K, d + 2 ≤ K → RowsOk K d
  | 0, K, h => by
    obtain ⟨k, rfl⟩ : ∃ k, K = k + 1 := ⟨K - 1, by omega⟩
    exact rows_ok (by omega) fun d' e => by omega
  | d + 1, K, h => by
    obtain ⟨k, rfl⟩ : ∃ k, K = k + 1 := ⟨K - 1, by omega⟩
    refine rows_ok (by omega) fun d' e => ?_
    obtain rfl : d = d' := by omega
    exact rows_all d _ (by omega)
end k60

set_option Elab.async false
set_option linter.all false
set_option maxRecDepth 100000
set_option maxHeartbeats 1000000
namespace k60
open PySem PySem.Spec PyProof.Rows L2 ML
def LRowsOk (K d : Nat) : Prop := ∀ {c : D} {i : Nat} {rs : List Row} {sz : Nat} {h : DH} {q : DQ} {x : DX}, ChF (WhR d) i c rs sz → (∀ r ∈ rs, RowOk r) → rs.length ≤ 1000 → (∀ p, h p = none → q (.ref p) (dup h p (.lst (txs rs)))) →
  (callD K).l_chain_rows [c, .str (bl i)] h q x
theorem l_rows_ok {K d : Nat} (hK : 1 ≤ K) (hc : ∀ d', d = d' + 1 → LRowsOk K d') : LRowsOk (K + 1) d := by
  intro c i rs sz h q x hch hr hl z
  obtain ⟨nm, args, sts, ans, r1, rfl, hn, ha, hans, hs, rfl⟩ := hch
  have b0 : i ≤ 8 := (hr _ (List.mem_cons_self ..)).dep
  have r0 := hr _ (List.mem_cons_self ..)
  have rl := hr (i, [wBACK, TL.numL ans]) (by simp)
  have hr1 : ∀ r ∈ r1, RowOk r := fun r h => hr r (by simp [h])
  simp only [List.length_cons, List.length_append, List.length_nil] at hl
  have bi := bl_len b0
  rw [cd_l_chain_rows]; simp only [tb_l_chain_rows, tb_l_chain_rows_2, body, dstart, dSeq, dIf, dAsg, dRet, dRetN, dNext, dDrop, dTest, dAnd, dOr, dNot, dAndV, dOrV, dNotV, dIfE, dOp, dUn, dC, dVar_e, dNil, dCons, dTup, dLst, dCall, dM1, dL1_e, dSl, oNo, oSo, gSet, gUn, gsCons, gsNil, dStI_e, dYes, ex_eq, ex_eq1, ex_bl, ex_str, ex_int, ex_ref, ex_tup, ex_cons, ex_lst1, ex_ins1, ex_ds, split_1, qin_str, qnin_str, append_, add_ii, add_ss, add_tt, sub_ii, mul_ii, mul_si, div_ii, mod_ii, pow_ii, lt_ii, le_ii, gt_ii, ge_ii, neg_i, eq_ii, eq_ss, ne_ii, ne_ss, qix_tup, qix_cl, qix_str, at0, at1, at2, at3, qlen_tup, qlen_cl, qlen_str, toI_i, toI_b, toI_s, toS_i, toS_s, qsl_tup, qsl_cl, qsl_str, List.map_cons, List.map_nil, List.length_cons, List.length_nil, List.replicate, List.cons_append, List.nil_append, List.getElem?_cons_zero, List.getElem?_cons_succ, List.set_cons_zero, List.set_cons_succ, true_and, and_true, Nat.reduceAdd, Nat.reduceSub, decide_eq_true_eq]
  refine ⟨by decide, by have := ha.1; unfold nts; rw [List.length_map]; unfold sizeLine; omega, l_worded_ok hK (ts := wCHAIN :: nm :: args.map TL.numL) ⟨.inl rfl, .inl rfl, things_nts ha.2⟩ r0.le r0.ws ?_⟩
  simp only [body, dstart, dSeq, dIf, dAsg, dRet, dRetN, dNext, dDrop, dTest, dAnd, dOr, dNot, dAndV, dOrV, dNotV, dIfE, dOp, dUn, dC, dVar_e, dNil, dCons, dTup, dLst, dCall, dM1, dL1_e, dSl, oNo, oSo, gSet, gUn, gsCons, gsNil, dStI_e, dYes, ex_eq, ex_eq1, ex_bl, ex_str, ex_int, ex_ref, ex_tup, ex_cons, ex_lst1, ex_ins1, ex_ds, split_1, qin_str, qnin_str, append_, add_ii, add_ss, add_tt, sub_ii, mul_ii, mul_si, div_ii, mod_ii, pow_ii, lt_ii, le_ii, gt_ii, ge_ii, neg_i, eq_ii, eq_ss, ne_ii, ne_ss, qix_tup, qix_cl, qix_str, at0, at1, at2, at3, qlen_tup, qlen_cl, qlen_str, toI_i, toI_b, toI_s, toS_i, toS_s, qsl_tup, qsl_cl, qsl_str, List.map_cons, List.map_nil, List.length_cons, List.length_nil, List.replicate, List.cons_append, List.nil_append, List.getElem?_cons_zero, List.getElem?_cons_succ, List.set_cons_zero, List.set_cons_succ, true_and, and_true, Nat.reduceAdd, Nat.reduceSub, decide_eq_true_eq]
  refine ⟨word_le (by omega) (by have := joined (ts := wCHAIN :: nm :: args.map TL.numL) r0.le r0.ws; omega), by decide, fun p0 hp0 => ?_⟩
  simp only [dFor, iAny, body, dstart, dSeq, dIf, dAsg, dRet, dRetN, dNext, dDrop, dTest, dAnd, dOr, dNot, dAndV, dOrV, dNotV, dIfE, dOp, dUn, dC, dVar_e, dNil, dCons, dTup, dLst, dCall, dM1, dL1_e, dSl, oNo, oSo, gSet, gUn, gsCons, gsNil, dStI_e, dYes, ex_eq, ex_eq1, ex_bl, ex_str, ex_int, ex_ref, ex_tup, ex_cons, ex_lst1, ex_ins1, ex_ds, split_1, qin_str, qnin_str, append_, add_ii, add_ss, add_tt, sub_ii, mul_ii, mul_si, div_ii, mod_ii, pow_ii, lt_ii, le_ii, gt_ii, ge_ii, neg_i, eq_ii, eq_ss, ne_ii, ne_ss, qix_tup, qix_cl, qix_str, at0, at1, at2, at3, qlen_tup, qlen_cl, qlen_str, toI_i, toI_b, toI_s, toS_i, toS_s, qsl_tup, qsl_cl, qsl_str, List.map_cons, List.map_nil, List.length_cons, List.length_nil, List.replicate, List.cons_append, List.nil_append, List.getElem?_cons_zero, List.getElem?_cons_succ, List.set_cons_zero, List.set_cons_succ, true_and, and_true, Nat.reduceAdd, Nat.reduceSub, decide_eq_true_eq]
  refine wk0 (for_ind (fun rem s hh => ∃ (p : Addr) (done rest : List Row) (szr : Nat) (v3 v4 v5 : Option D), h p = none ∧ StsF (WhR d) (i + 1) rem rest szr ∧ done ++ rest = r1 ∧ Le (dup h p (.lst (txs ((i, wCHAIN :: nm :: args.map TL.numL) :: done)))) hh ∧
    s = [some (D.tup [D.str nm, D.tup (nts args), D.tup sts, D.int ans]), some (D.str (bl i)), some (D.ref p), v3, v4, v5]) ?_ ?_ _ _ _ ⟨p0, [], r1, sz, _, _, _, hp0, hs, rfl, .refl _, rfl⟩)
  · rintro s hh ⟨p, done, rest, szr, v3, v4, v5, hp, ⟨rfl, rfl⟩, e, hle, rfl⟩
    rw [List.append_nil] at e
    subst e
    have ep : hh p = some (.lst (txs ((i, wCHAIN :: nm :: args.map TL.numL) :: done))) := hle _ _ dup_same
    simp only [body, dstart, dSeq, dIf, dAsg, dRet, dRetN, dNext, dDrop, dTest, dAnd, dOr, dNot, dAndV, dOrV, dNotV, dIfE, dOp, dUn, dC, dVar_e, dNil, dCons, dTup, dLst, dCall, dM1, dL1_e, dSl, oNo, oSo, gSet, gUn, gsCons, gsNil, dStI_e, dYes, ex_eq, ex_eq1, ex_bl, ex_str, ex_int, ex_ref, ex_tup, ex_cons, ex_lst1, ex_ins1, ex_ds, split_1, qin_str, qnin_str, append_, add_ii, add_ss, add_tt, sub_ii, mul_ii, mul_si, div_ii, mod_ii, pow_ii, lt_ii, le_ii, gt_ii, ge_ii, neg_i, eq_ii, eq_ss, ne_ii, ne_ss, qix_tup, qix_cl, qix_str, at0, at1, at2, at3, qlen_tup, qlen_cl, qlen_str, toI_i, toI_b, toI_s, toS_i, toS_s, qsl_tup, qsl_cl, qsl_str, List.map_cons, List.map_nil, List.length_cons, List.length_nil, List.replicate, List.cons_append, List.nil_append, List.getElem?_cons_zero, List.getElem?_cons_succ, List.set_cons_zero, List.set_cons_succ, true_and, and_true, Nat.reduceAdd, Nat.reduceSub, decide_eq_true_eq]
    refine ⟨by decide, l_worded_ok hK (ts := [wBACK, TL.numL ans]) ⟨.inl rfl, .inr ⟨ans, hans, rfl, rfl⟩, trivial⟩ rl.le rl.ws ?_⟩
    simp only [body, dstart, dSeq, dIf, dAsg, dRet, dRetN, dNext, dDrop, dTest, dAnd, dOr, dNot, dAndV, dOrV, dNotV, dIfE, dOp, dUn, dC, dVar_e, dNil, dCons, dTup, dLst, dCall, dM1, dL1_e, dSl, oNo, oSo, gSet, gUn, gsCons, gsNil, dStI_e, dYes, ex_eq, ex_eq1, ex_bl, ex_str, ex_int, ex_ref, ex_tup, ex_cons, ex_lst1, ex_ins1, ex_ds, split_1, qin_str, qnin_str, append_, add_ii, add_ss, add_tt, sub_ii, mul_ii, mul_si, div_ii, mod_ii, pow_ii, lt_ii, le_ii, gt_ii, ge_ii, neg_i, eq_ii, eq_ss, ne_ii, ne_ss, qix_tup, qix_cl, qix_str, at0, at1, at2, at3, qlen_tup, qlen_cl, qlen_str, toI_i, toI_b, toI_s, toS_i, toS_s, qsl_tup, qsl_cl, qsl_str, List.map_cons, List.map_nil, List.length_cons, List.length_nil, List.replicate, List.cons_append, List.nil_append, List.getElem?_cons_zero, List.getElem?_cons_succ, List.set_cons_zero, List.set_cons_succ, true_and, and_true, Nat.reduceAdd, Nat.reduceSub, decide_eq_true_eq]
    refine ⟨word_le (by omega) (by have := joined (ts := [wBACK, TL.numL ans]) rl.le rl.ws; omega), by decide, fun p2 hp2 => ?_⟩
    have ne : p ≠ p2 := free_ne ep hp2
    rw [add_ll (show dup hh p2 _ p = _ by rw [dup_ne ne]; exact ep) dup_same]
    refine ⟨by rw [txs_len]; simp; unfold sizeLine; omega, fun p3 hp3 => ?_⟩
    have hl3 : h p3 = none := by
      cases e : h p3 with
      | none => rfl
      | some o =>
        have n1 : p3 ≠ p := free_ne e hp
        have := hle p3 o (by rw [dup_ne n1]; exact e)
        have n2 : p3 ≠ p2 := free_ne this hp2
        rw [dup_ne n2, this] at hp3; cases hp3
    have ec : txs ((i, wCHAIN :: nm :: args.map TL.numL) :: (done ++ [(i, [wBACK, TL.numL ans])])) = txs ((i, wCHAIN :: nm :: args.map TL.numL) :: done) ++ [.str (bl i ++ TL.joinL [32] [wBACK, TL.numL ans])] := by
      rw [← List.cons_append, txs_app]; rfl
    have zz := z p3 hl3
    rw [ec] at zz
    refine wkq ?_ zz
    intro a o e
    have := hle a o
    simp only [dup] at this e hp2 hp3 ⊢
    grind
  · rintro y rem s hh ⟨p, done, rest, szr, v3, v4, v5, hp, ⟨n, held, w, ws, r1', s1, r2, s2, rfl, hn', hd, hw, rfl, h2, rfl⟩, e, hle, rfl⟩
    refine ⟨trivial, fun F hF => ?_⟩
    subst e
    have rr : RowOk (i + 1, TL.numL n :: (held.map TL.numL ++ [58] :: ws)) := hr1 _ (by simp)
    have ep : hh p = some (.lst (txs ((i, wCHAIN :: nm :: args.map TL.numL) :: done))) := hle _ _ dup_same
    have jr := joined (ts := TL.numL n :: (held.map TL.numL ++ [58] :: ws)) rr.le rr.ws
    have hdl : (nts held).length ≤ 3 := by unfold nts; rw [List.length_map]; exact hd.1
    have b2 : (bl i ++ [32, 32]).length ≤ 18 := by simp only [List.length_append, List.length_cons, List.length_nil]; omega
    have tl (rs' : List Row) : txs ((i, wCHAIN :: nm :: args.map TL.numL) :: (done ++ (i + 1, TL.numL n :: (held.map TL.numL ++ [58] :: ws)) :: rs')) = txs ((i, wCHAIN :: nm :: args.map TL.numL) :: done) ++ .str (bl i ++ [32, 32] ++ TL.joinL [32] (TL.numL n :: (held.map TL.numL ++ [58] :: ws))) :: txs rs' := by
      rw [← List.cons_append, txs_app, bl_succ]; rfl
    have ln : (txs ((i, wCHAIN :: nm :: args.map TL.numL) :: done)).length ≤ 1000 := by
      rw [txs_len]; simp only [List.length_cons, List.length_append] at hl ⊢; omega
    simp only [tb_l_chain_rows_1, body, dstart, dSeq, dIf, dAsg, dRet, dRetN, dNext, dDrop, dTest, dAnd, dOr, dNot, dAndV, dOrV, dNotV, dIfE, dOp, dUn, dC, dVar_e, dNil, dCons, dTup, dLst, dCall, dM1, dL1_e, dSl, oNo, oSo, gSet, gUn, gsCons, gsNil, dStI_e, dYes, ex_eq, ex_eq1, ex_bl, ex_str, ex_int, ex_ref, ex_tup, ex_cons, ex_lst1, ex_ins1, ex_ds, split_1, qin_str, qnin_str, append_, add_ii, add_ss, add_tt, sub_ii, mul_ii, mul_si, div_ii, mod_ii, pow_ii, lt_ii, le_ii, gt_ii, ge_ii, neg_i, eq_ii, eq_ss, ne_ii, ne_ss, qix_tup, qix_cl, qix_str, at0, at1, at2, at3, qlen_tup, qlen_cl, qlen_str, toI_i, toI_b, toI_s, toS_i, toS_s, qsl_tup, qsl_cl, qsl_str, List.map_cons, List.map_nil, List.length_cons, List.length_nil, List.replicate, List.cons_append, List.nil_append, List.getElem?_cons_zero, List.getElem?_cons_succ, List.set_cons_zero, List.set_cons_succ, true_and, and_true, Nat.reduceAdd, Nat.reduceSub, decide_eq_true_eq]
    rcases whr_cases hw with ⟨l, rfl, rfl⟩ | ⟨d', c, rfl, rfl, rfl, hch⟩
    · obtain ⟨hd', ds, rfl, hne, ht, hdl2⟩ := leaf_head l
      simp only [body, dstart, dSeq, dIf, dAsg, dRet, dRetN, dNext, dDrop, dTest, dAnd, dOr, dNot, dAndV, dOrV, dNotV, dIfE, dOp, dUn, dC, dVar_e, dNil, dCons, dTup, dLst, dCall, dM1, dL1_e, dSl, oNo, oSo, gSet, gUn, gsCons, gsNil, dStI_e, dYes, ex_eq, ex_eq1, ex_bl, ex_str, ex_int, ex_ref, ex_tup, ex_cons, ex_lst1, ex_ins1, ex_ds, split_1, qin_str, qnin_str, append_, add_ii, add_ss, add_tt, sub_ii, mul_ii, mul_si, div_ii, mod_ii, pow_ii, lt_ii, le_ii, gt_ii, ge_ii, neg_i, eq_ii, eq_ss, ne_ii, ne_ss, qix_tup, qix_cl, qix_str, at0, at1, at2, at3, qlen_tup, qlen_cl, qlen_str, toI_i, toI_b, toI_s, toS_i, toS_s, qsl_tup, qsl_cl, qsl_str, List.map_cons, List.map_nil, List.length_cons, List.length_nil, List.replicate, List.cons_append, List.nil_append, List.getElem?_cons_zero, List.getElem?_cons_succ, List.set_cons_zero, List.set_cons_succ, true_and, and_true, Nat.reduceAdd, Nat.reduceSub, decide_eq_true_eq]
      rw [if_neg (show ¬ hd' = [99, 97, 108, 108] from hne), l1_ ep]
      simp only [body, dstart, dSeq, dIf, dAsg, dRet, dRetN, dNext, dDrop, dTest, dAnd, dOr, dNot, dAndV, dOrV, dNotV, dIfE, dOp, dUn, dC, dVar_e, dNil, dCons, dTup, dLst, dCall, dM1, dL1_e, dSl, oNo, oSo, gSet, gUn, gsCons, gsNil, dStI_e, dYes, ex_eq, ex_eq1, ex_bl, ex_str, ex_int, ex_ref, ex_tup, ex_cons, ex_lst1, ex_ins1, ex_ds, split_1, qin_str, qnin_str, append_, add_ii, add_ss, add_tt, sub_ii, mul_ii, mul_si, div_ii, mod_ii, pow_ii, lt_ii, le_ii, gt_ii, ge_ii, neg_i, eq_ii, eq_ss, ne_ii, ne_ss, qix_tup, qix_cl, qix_str, at0, at1, at2, at3, qlen_tup, qlen_cl, qlen_str, toI_i, toI_b, toI_s, toS_i, toS_s, qsl_tup, qsl_cl, qsl_str, List.map_cons, List.map_nil, List.length_cons, List.length_nil, List.replicate, List.cons_append, List.nil_append, List.getElem?_cons_zero, List.getElem?_cons_succ, List.set_cons_zero, List.set_cons_succ, true_and, and_true, Nat.reduceAdd, Nat.reduceSub, decide_eq_true_eq]
      refine ⟨by unfold sizeLine; omega, by decide, by unfold sizeLine; omega, by decide, by (try simp only [List.length_append]); unfold sizeLine; omega, by (try simp only [List.length_append, List.length_cons, List.length_nil]); unfold sizeLine; omega,
        l_worded_ok hK (ts := TL.numL n :: (held.map TL.numL ++ [58] :: ws)) ⟨.inr ⟨n, by omega, rfl, rfl⟩, ?_⟩ rr.le rr.ws ?_⟩
      · rw [List.append_assoc]
        exact (things_nts hd.2).app ⟨.inl rfl, ht⟩
      simp only [body, dstart, dSeq, dIf, dAsg, dRet, dRetN, dNext, dDrop, dTest, dAnd, dOr, dNot, dAndV, dOrV, dNotV, dIfE, dOp, dUn, dC, dVar_e, dNil, dCons, dTup, dLst, dCall, dM1, dL1_e, dSl, oNo, oSo, gSet, gUn, gsCons, gsNil, dStI_e, dYes, ex_eq, ex_eq1, ex_bl, ex_str, ex_int, ex_ref, ex_tup, ex_cons, ex_lst1, ex_ins1, ex_ds, split_1, qin_str, qnin_str, append_, add_ii, add_ss, add_tt, sub_ii, mul_ii, mul_si, div_ii, mod_ii, pow_ii, lt_ii, le_ii, gt_ii, ge_ii, neg_i, eq_ii, eq_ss, ne_ii, ne_ss, qix_tup, qix_cl, qix_str, at0, at1, at2, at3, qlen_tup, qlen_cl, qlen_str, toI_i, toI_b, toI_s, toS_i, toS_s, qsl_tup, qsl_cl, qsl_str, List.map_cons, List.map_nil, List.length_cons, List.length_nil, List.replicate, List.cons_append, List.nil_append, List.getElem?_cons_zero, List.getElem?_cons_succ, List.set_cons_zero, List.set_cons_succ, true_and, and_true, Nat.reduceAdd, Nat.reduceSub, decide_eq_true_eq]
      refine ⟨by unfold sizeLine; omega, _, ep, by unfold sizeLine; omega, hF _ _ _ (dup h p (.lst (txs ((i, wCHAIN :: nm :: args.map TL.numL) :: (done ++ [(i + 1, TL.numL n :: (held.map TL.numL ++ [58] :: ws))])))))
        ⟨rfl, fun _ _ e => e⟩ ?_ ⟨p, _, r2, s2, _, _, _, hp, h2, by simp, .refl _, rfl⟩⟩
      rw [tl []]
      intro a o e
      have := hle a o
      simp only [dup] at this e ⊢
      grind [txs]
    · simp only [body, dstart, dSeq, dIf, dAsg, dRet, dRetN, dNext, dDrop, dTest, dAnd, dOr, dNot, dAndV, dOrV, dNotV, dIfE, dOp, dUn, dC, dVar_e, dNil, dCons, dTup, dLst, dCall, dM1, dL1_e, dSl, oNo, oSo, gSet, gUn, gsCons, gsNil, dStI_e, dYes, ex_eq, ex_eq1, ex_bl, ex_str, ex_int, ex_ref, ex_tup, ex_cons, ex_lst1, ex_ins1, ex_ds, split_1, qin_str, qnin_str, append_, add_ii, add_ss, add_tt, sub_ii, mul_ii, mul_si, div_ii, mod_ii, pow_ii, lt_ii, le_ii, gt_ii, ge_ii, neg_i, eq_ii, eq_ss, ne_ii, ne_ss, qix_tup, qix_cl, qix_str, at0, at1, at2, at3, qlen_tup, qlen_cl, qlen_str, toI_i, toI_b, toI_s, toS_i, toS_s, qsl_tup, qsl_cl, qsl_str, List.map_cons, List.map_nil, List.length_cons, List.length_nil, List.replicate, List.cons_append, List.nil_append, List.getElem?_cons_zero, List.getElem?_cons_succ, List.set_cons_zero, List.set_cons_succ, true_and, and_true, Nat.reduceAdd, Nat.reduceSub, decide_eq_true_eq]
      rw [if_pos (show wCALL = [99, 97, 108, 108] from rfl), l1_ ep]
      simp only [body, dstart, dSeq, dIf, dAsg, dRet, dRetN, dNext, dDrop, dTest, dAnd, dOr, dNot, dAndV, dOrV, dNotV, dIfE, dOp, dUn, dC, dVar_e, dNil, dCons, dTup, dLst, dCall, dM1, dL1_e, dSl, oNo, oSo, gSet, gUn, gsCons, gsNil, dStI_e, dYes, ex_eq, ex_eq1, ex_bl, ex_str, ex_int, ex_ref, ex_tup, ex_cons, ex_lst1, ex_ins1, ex_ds, split_1, qin_str, qnin_str, append_, add_ii, add_ss, add_tt, sub_ii, mul_ii, mul_si, div_ii, mod_ii, pow_ii, lt_ii, le_ii, gt_ii, ge_ii, neg_i, eq_ii, eq_ss, ne_ii, ne_ss, qix_tup, qix_cl, qix_str, at0, at1, at2, at3, qlen_tup, qlen_cl, qlen_str, toI_i, toI_b, toI_s, toS_i, toS_s, qsl_tup, qsl_cl, qsl_str, List.map_cons, List.map_nil, List.length_cons, List.length_nil, List.replicate, List.cons_append, List.nil_append, List.getElem?_cons_zero, List.getElem?_cons_succ, List.set_cons_zero, List.set_cons_succ, true_and, and_true, Nat.reduceAdd, Nat.reduceSub, decide_eq_true_eq]
      refine ⟨by unfold sizeLine; omega, by decide, by unfold sizeLine; omega, by decide, by (try simp only [List.length_append]); unfold sizeLine; omega,
        l_worded_ok hK (ts := TL.numL n :: (held.map TL.numL ++ [58] :: [wCALL])) ⟨.inr ⟨n, by omega, rfl, rfl⟩, (things_nts hd.2).app ⟨.inl rfl, .inl rfl, trivial⟩⟩ rr.le rr.ws ?_⟩
      simp only [body, dstart, dSeq, dIf, dAsg, dRet, dRetN, dNext, dDrop, dTest, dAnd, dOr, dNot, dAndV, dOrV, dNotV, dIfE, dOp, dUn, dC, dVar_e, dNil, dCons, dTup, dLst, dCall, dM1, dL1_e, dSl, oNo, oSo, gSet, gUn, gsCons, gsNil, dStI_e, dYes, ex_eq, ex_eq1, ex_bl, ex_str, ex_int, ex_ref, ex_tup, ex_cons, ex_lst1, ex_ins1, ex_ds, split_1, qin_str, qnin_str, append_, add_ii, add_ss, add_tt, sub_ii, mul_ii, mul_si, div_ii, mod_ii, pow_ii, lt_ii, le_ii, gt_ii, ge_ii, neg_i, eq_ii, eq_ss, ne_ii, ne_ss, qix_tup, qix_cl, qix_str, at0, at1, at2, at3, qlen_tup, qlen_cl, qlen_str, toI_i, toI_b, toI_s, toS_i, toS_s, qsl_tup, qsl_cl, qsl_str, List.map_cons, List.map_nil, List.length_cons, List.length_nil, List.replicate, List.cons_append, List.nil_append, List.getElem?_cons_zero, List.getElem?_cons_succ, List.set_cons_zero, List.set_cons_succ, true_and, and_true, Nat.reduceAdd, Nat.reduceSub, decide_eq_true_eq]
      refine ⟨by unfold sizeLine; omega, _, ep, by unfold sizeLine; omega, by unfold sizeLine; omega, ?_⟩
      rw [bl_succ]
      have hsub : ∀ r ∈ r1', RowOk r := fun r h => hr1 r (by simp [h])
      have hln : (r1'.length ≤ 1000) := by simp only [List.length_cons, List.length_append] at hl; omega
      refine hc d' rfl hch hsub hln fun p4 hp4 => ?_
      have n4 : p4 ≠ p := by simp only [dup] at hp4; grind
      rw [add_ll (show dup (dup hh p _) p4 _ p = _ by rw [dup_ne (Ne.symm n4)]; exact dup_same) dup_same]
      refine ⟨by rw [txs_len, List.length_append]; simp only [List.length_cons, List.length_nil]; unfold sizeLine; omega, fun p5 hp5 => ?_⟩
      have hh5 : hh p5 = none := by simp only [dup] at hp5; grind
      have h5 : h p5 = none := by
        cases e : h p5 with
        | none => rfl
        | some o =>
          have n1 : p5 ≠ p := free_ne e hp
          have := hle p5 o (by rw [dup_ne n1]; exact e)
          rw [this] at hh5; cases hh5
      refine hF _ _ _ (dup h p5 (.lst (txs ((i, wCHAIN :: nm :: args.map TL.numL) :: (done ++ (i + 1, TL.numL n :: (held.map TL.numL ++ [58] :: [wCALL])) :: r1'))))) ⟨rfl, fun _ _ e => e⟩ ?_ ⟨p5, _, r2, s2, _, _, _, h5, h2, by simp, .refl _, rfl⟩
      rw [tl r1', ← bl_succ]
      intro a o e
      have := hle a o
      simp only [dup, List.append_assoc, List.cons_append, List.nil_append] at this e hp4 hp5 ⊢
      grind
theorem l_rows_all : ∀ d K, d + 2 ≤ K → LRowsOk K d
  | 0, K, h => by
    obtain ⟨k, rfl⟩ : ∃ k, K = k + 1 := ⟨K - 1, by omega⟩
    exact l_rows_ok (by omega) fun d' e => by omega
  | d + 1, K, h => by
    obtain ⟨k, rfl⟩ : ∃ k, K = k + 1 := ⟨K - 1, by omega⟩
    refine l_rows_ok (by omega) fun d' e => ?_
    obtain rfl : d = d' := by omega
    exact l_rows_all d _ (by omega)
/-! ### the text of a chain -/
def textOf (rs : List Row) : List Nat := TL.joinL [10] (rs.map rowT)
theorem rows_sum {rs : List Row} (hr : ∀ r ∈ rs, RowOk r) (hl : rs.length ≤ 1000) : ((rs.map rowT).map (·.length)).sum + (rs.map rowT).length * 1 ≤ 16777216 := by
  have := sum_le (n := 200) (ws := rs.map rowT) fun w hw => by
    obtain ⟨r, hr2, rfl⟩ := List.mem_map.mp hw
    exact (hr r hr2).len
  rw [List.length_map] at this ⊢
  have : rs.length * 200 ≤ 1000 * 200 := Nat.mul_le_mul hl (Nat.le_refl _)
  omega
theorem text_ok {K d : Nat} {c : D} {rs : List Row} {sz : Nat} {h : DH} {q : DQ} {x : DX} (hK : d + 3 ≤ K) (hch : ChF (WhR d) 0 c rs sz) (hr : ∀ r ∈ rs, RowOk r) (hl : rs.length ≤ 1000) (z : q (.str (textOf rs)) h) : (callD K).book_text [c] h q x := by
  obtain ⟨k, rfl⟩ : ∃ k, K = k + 1 := ⟨K - 1, by omega⟩
  rw [cd_book_text]; simp only [tb_book_text, body, dstart, dSeq, dIf, dAsg, dRet, dRetN, dNext, dDrop, dTest, dAnd, dOr, dNot, dAndV, dOrV, dNotV, dIfE, dOp, dUn, dC, dVar_e, dNil, dCons, dTup, dLst, dCall, dM1, dL1_e, dSl, oNo, oSo, gSet, gUn, gsCons, gsNil, dStI_e, dYes, ex_eq, ex_eq1, ex_bl, ex_str, ex_int, ex_ref, ex_tup, ex_cons, ex_lst1, ex_ins1, ex_ds, split_1, qin_str, qnin_str, append_, add_ii, add_ss, add_tt, sub_ii, mul_ii, mul_si, div_ii, mod_ii, pow_ii, lt_ii, le_ii, gt_ii, ge_ii, neg_i, eq_ii, eq_ss, ne_ii, ne_ss, qix_tup, qix_cl, qix_str, at0, at1, at2, at3, qlen_tup, qlen_cl, qlen_str, toI_i, toI_b, toI_s, toS_i, toS_s, qsl_tup, qsl_cl, qsl_str, List.map_cons, List.map_nil, List.length_cons, List.length_nil, List.replicate, List.cons_append, List.nil_append, List.getElem?_cons_zero, List.getElem?_cons_succ, List.set_cons_zero, List.set_cons_succ, true_and, and_true, Nat.reduceAdd, Nat.reduceSub, decide_eq_true_eq]
  refine rows_all d k (by omega) (i := 0) hch hr hl fun p hp => ?_
  rw [txs, join_ref dup_same]
  exact ⟨rows_sum hr hl, wkq (le_ne hp) z⟩
end k60

set_option Elab.async false
set_option linter.all false
set_option maxRecDepth 100000
set_option maxHeartbeats 1000000
namespace k60
open PySem PySem.Spec PyProof.Rows L2 ML
/-! ### texts cut in words -/
theorem tl_mk (z : List Nat) : TL.tl (mkS z) = z := rfl
theorem takeW_rep {g : Nat → Bool} {z : List Nat} (hg : g 32 = true) (hz : ∀ c r, z = c :: r → g c = false) : ∀ k, (List.replicate k 32 ++ z).takeWhile g = List.replicate k 32
  | 0 => by
    cases z with
    | nil => rfl
    | cons c r => simp [hz c r rfl]
  | k + 1 => by
    rw [List.replicate_succ, List.cons_append, List.takeWhile_cons, hg, if_pos rfl, takeW_rep hg hz k]
theorem strip_eq {k : Nat} {z : List Nat} (h1 : ∀ c r, z = c :: r → c ≠ 32) (h2 : ∀ c r, z = r ++ [c] → c ≠ 32) : TL.tl (Txt.stripChars (mkS (List.replicate k 32 ++ z)) (mkS [32])) = z := by
  have hg : ∀ c, (mkS [32]).cps.contains c = decide (c = 32) := fun c => by
    show (#[32] : Array Nat).contains c = _
    by_cases e : c = 32
    · subst e; simp
    · rw [decide_eq_false e]; simp [Array.contains, e]
  have w1 := takeW_rep (g := (mkS [32]).cps.contains) (z := z) (by rw [hg]; rfl) (fun c r e => by rw [hg]; exact decide_eq_false (h1 c r e)) k
  have w2 : z.reverse.takeWhile (mkS [32]).cps.contains = [] := by
    cases e : z.reverse with
    | nil => rfl
    | cons c r =>
      have : z = r.reverse ++ [c] := by rw [← List.reverse_reverse z, e, List.reverse_cons]
      rw [List.takeWhile_cons, hg, decide_eq_false (h2 c _ this)]; rfl
  unfold Txt.stripChars
  rw [PyProof.Rows.stripBy_eq]
  have lo : stripLo (mkS [32]).cps.contains true (mkS (List.replicate k 32 ++ z)) = k := by
    unfold stripLo
    show (if true = true then ((mkS (List.replicate k 32 ++ z)).cps.toList.takeWhile _).length else 0) = k
    rw [if_pos rfl, show (mkS (List.replicate k 32 ++ z)).cps.toList = List.replicate k 32 ++ z from rfl, w1, List.length_replicate]
  rw [lo]
  have hi : stripHi (mkS [32]).cps.contains true (mkS (List.replicate k 32 ++ z)) k = (List.replicate k 32 ++ z).length := by
    unfold stripHi
    rw [if_pos rfl, show (mkS (List.replicate k 32 ++ z)).cps.toList = List.replicate k 32 ++ z from rfl, List.drop_left' (by rw [List.length_replicate]), w2]
    rfl
  rw [hi]
  show ((List.replicate k 32 ++ z).toArray.extract k (List.replicate k 32 ++ z).length).toList = z
  rw [List.extract_toArray]
  simp [List.extract]
theorem joinL_head {w : List Nat} {ws : List (List Nat)} : ∃ r, TL.joinL [32] (w :: ws) = w ++ r := by
  cases ws with
  | nil => exact ⟨[], (List.append_nil _).symm⟩
  | cons a r => exact ⟨_, rfl⟩
theorem joinL_last : ∀ {ws : List (List Nat)}, ws ≠ [] → ∃ w ∈ ws, ∃ r, TL.joinL [32] ws = r ++ w
  | [], h => absurd rfl h
  | [w], _ => ⟨w, by simp, [], rfl⟩
  | a :: b :: r, _ => by
    obtain ⟨w, hw, r', e⟩ := joinL_last (ws := b :: r) (by simp)
    exact ⟨w, List.mem_cons_of_mem _ hw, a ++ ([32] ++ r'), by rw [joinL_cons (by simp), e]; simp only [List.append_assoc]⟩
theorem strip_row {r : Row} (h : RowOk r) : TL.tl (Txt.stripChars (mkS (rowT r)) (mkS [32])) = TL.joinL [32] r.2 := by
  unfold rowT bl
  obtain ⟨i, ws⟩ := r
  refine strip_eq (fun c r e => ?_) fun c r e => ?_
  · cases ws with
    | nil => exact absurd rfl h.ne
    | cons w ws =>
      obtain ⟨r', e2⟩ := joinL_head (w := w) (ws := ws)
      have hw := h.ws w (List.mem_cons_self ..)
      cases w with
      | nil => exact absurd rfl hw.ne
      | cons d w =>
        rw [show TL.joinL [32] ((d :: w) :: ws) = (d :: w) ++ r' from e2] at e
        have : d = c := by simpa using congrArg List.head? e
        intro e3
        exact hw.nb (by rw [this, e3]; exact List.mem_cons_self ..)
  · obtain ⟨w, hw, r', e2⟩ := joinL_last h.ne
    have hw := h.ws w hw
    rw [e2] at e
    intro e3
    subst e3
    have : w.getLast? = some 32 := by
      have e4 := congrArg List.getLast? e
      rw [List.getLast?_append, List.getLast?_append] at e4
      cases e5 : w.getLast? with
      | none => exact absurd (List.getLast?_eq_none_iff.mp e5) hw.ne
      | some c => rw [e5] at e4; simpa using e4
    exact hw.nb (List.mem_of_getLast? this)
def toks (z : List Nat) : List (List Nat) := (TL.spl [32] 0 [] z).filter fun w => decide (w ≠ [])
theorem toks_word {w z : List Nat} (h : WordOk w) : toks (w ++ 32 :: z) = w :: toks z := by
  unfold toks
  rw [show w ++ 32 :: z = w ++ ([32] ++ z) from rfl, TL.spl_part1 h.nb, List.nil_append, List.filter_cons_of_pos (by simpa using h.ne)]
theorem toks_one {w : List Nat} (h : WordOk w) : toks w = [w] := by
  unfold toks
  rw [TL.spl_last1 h.nb, List.nil_append, List.filter_cons_of_pos (by simpa using h.ne)]; rfl
theorem toks_nil : toks [] = [] := rfl
theorem toks_sp (z : List Nat) : toks (32 :: z) = toks z := by
  unfold toks
  have := TL.spl_part1 (s := 32) (S := []) (p := []) (rest := z) (acc := []) (by simp)
  rw [show (32 :: z : List Nat) = [] ++ ([32] ++ z) from rfl, this, List.filter_cons_of_neg (by simp)]
theorem toks_sps (z : List Nat) : ∀ k, toks (List.replicate k 32 ++ z) = toks z
  | 0 => rfl
  | k + 1 => by rw [List.replicate_succ, List.cons_append, toks_sp, toks_sps z k]
/-- what is written so far gives these words, whatever blanks and words come behind -/
def Tk (T : List Nat) (ws : List (List Nat)) : Prop := ∀ z, (z = [] ∨ ∃ r, z = 32 :: r) → toks (T ++ z) = ws ++ toks z
theorem Tk.first {w : List Nat} (h : WordOk w) (k : Nat) : Tk (List.replicate k 32 ++ w) [w] := by
  intro z hz
  rw [List.append_assoc, toks_sps]
  rcases hz with rfl | ⟨r, rfl⟩
  · rw [List.append_nil, toks_one h]; rfl
  · rw [toks_word h, toks_sp]; rfl
theorem Tk.more {T : List Nat} {ws : List (List Nat)} {w : List Nat} (t : Tk T ws) (h : WordOk w) (k : Nat) : Tk (T ++ List.replicate (k + 1) 32 ++ w) (ws ++ [w]) := by
  intro z hz
  rw [List.append_assoc, List.append_assoc, t _ (.inr ⟨_, by rw [List.replicate_succ]; rfl⟩), toks_sps]
  rcases hz with rfl | ⟨r, rfl⟩
  · rw [List.append_nil, toks_one h, toks_nil, List.append_nil]
  · rw [toks_word h, toks_sp, List.append_assoc]; rfl
theorem Tk.fin {T : List Nat} {ws : List (List Nat)} (t : Tk T ws) (k : Nat) : toks (T ++ List.replicate k 32) = ws := by
  cases k with
  | zero =>
    have := t [] (.inl rfl)
    rw [toks_nil, List.append_nil] at this; simpa using this
  | succ k =>
    rw [t _ (.inr ⟨_, by rw [List.replicate_succ]⟩), show List.replicate (k + 1) 32 = List.replicate (k + 1) 32 ++ [] by simp, toks_sps, toks_nil, List.append_nil]
theorem toks_row {ws : List (List Nat)} (k : Nat) : (∀ w ∈ ws, WordOk w) → toks (List.replicate k 32 ++ TL.joinL [32] ws) = ws := by
  intro h
  rw [toks_sps]
  clear k
  induction ws with
  | nil => rfl
  | cons w ws ih =>
    have hw := h w (List.mem_cons_self ..)
    cases ws with
    | nil => exact toks_one hw
    | cons a r =>
      rw [joinL_cons (by simp), show w ++ ([32] ++ TL.joinL [32] (a :: r)) = w ++ 32 :: TL.joinL [32] (a :: r) from rfl, toks_word hw, ih fun w hw => h w (List.mem_cons_of_mem _ hw)]
/-- lines that hold these rows -/
structure LinesOf (ls : List (List Nat)) (rs : List Row) : Prop where
  ne : ls ≠ []
  nl : ∀ l ∈ ls, 10 ∉ l
  le : ∀ l ∈ ls, l.length ≤ 400
  few : ls.length ≤ 3000
  tk : (ls.map toks).filter (fun w => decide (w ≠ [])) = rs.map (·.2)
theorem row_nl {r : Row} (h : RowOk r) : 10 ∉ rowT r := by
  unfold rowT bl
  intro e
  rcases List.mem_append.mp e with e | e
  · exact absurd (List.eq_of_mem_replicate e) (by decide)
  · have : ∀ ws : List (List Nat), (∀ w ∈ ws, WordOk w) → 10 ∉ TL.joinL [32] ws := by
      intro ws
      induction ws with
      | nil => intro _ h; cases h
      | cons w ws ih =>
        intro hw h2
        cases ws with
        | nil => exact (hw w (List.mem_cons_self ..)).nl h2
        | cons a r =>
          rw [joinL_cons (by simp)] at h2
          rcases List.mem_append.mp h2 with e | e
          · exact (hw w (List.mem_cons_self ..)).nl e
          · rcases List.mem_append.mp e with e | e
            · exact absurd (List.mem_singleton.mp e) (by decide)
            · exact ih (fun w h => hw w (List.mem_cons_of_mem _ h)) e
    exact this r.2 h.ws e
theorem linesOf_rows {rs : List Row} (hne : rs ≠ []) (hr : ∀ r ∈ rs, RowOk r) (hl : rs.length ≤ 1000) : LinesOf (rs.map rowT) rs := by
  refine ⟨by simpa using hne, ?_, ?_, by rw [List.length_map]; omega, ?_⟩
  · intro l h; obtain ⟨r, hr2, rfl⟩ := List.mem_map.mp h; exact row_nl (hr r hr2)
  · intro l h; obtain ⟨r, hr2, rfl⟩ := List.mem_map.mp h; have := (hr r hr2).len; omega
  · clear hne hl
    induction rs with
    | nil => rfl
    | cons r rs ih =>
      have h := hr r (List.mem_cons_self ..)
      have e : toks (rowT r) = r.2 := toks_row _ h.ws
      rw [List.map_cons, List.map_cons, e, List.filter_cons_of_pos (by simpa using h.ne), ih fun r hr2 => hr r (List.mem_cons_of_mem _ hr2), List.map_cons]
end k60

set_option Elab.async false
set_option linter.all false
set_option maxRecDepth 100000
set_option maxHeartbeats 1000000
namespace k60
open PySem PySem.Spec PyProof.Rows L2 ML
/-! ### the loose text -/
theorem rep_flat (k : Nat) : (List.replicate k [32]).flatten = List.replicate k 32 := by
  induction k with
  | zero => rfl
  | succ k ih => rw [List.replicate_succ, List.flatten_cons, ih]; rfl
abbrev hpL (h : DH) (b p : Addr) (m : MO) (ls : List (List Nat)) : DH := dup (dup h b m) p (.lst (ls.map .str))
structure Lns (ls : List (List Nat)) (rs : List Row) (n : Nat) : Prop where
  nl : ∀ l ∈ ls, 10 ∉ l
  le : ∀ l ∈ ls, l.length ≤ 400
  few : ls.length ≤ n
  tk : (ls.map toks).filter (fun w => decide (w ≠ [])) = rs.map (·.2)
theorem Lns.blank {ls : List (List Nat)} {rs : List Row} {n k : Nat} (l : Lns ls rs n) (hk : k ≤ 3) : Lns (ls ++ [List.replicate k 32]) rs (n + 1) := by
  refine ⟨fun x hx => ?_, fun x hx => ?_, by rw [List.length_append]; have := l.few; simp; omega, ?_⟩
  · rcases List.mem_append.mp hx with e | e
    · exact l.nl x e
    · rw [List.mem_singleton.mp e]; intro e2; exact absurd (List.eq_of_mem_replicate e2) (by decide)
  · rcases List.mem_append.mp hx with e | e
    · exact l.le x e
    · rw [List.mem_singleton.mp e, List.length_replicate]; omega
  · have e : toks (List.replicate k 32) = [] := by
      have := toks_sps [] k
      rwa [List.append_nil, toks_nil] at this
    rw [List.map_append, List.filter_append, l.tk, List.map_cons, e]; simp
theorem Lns.row {ls : List (List Nat)} {rs : List Row} {n : Nat} {r : Row} {T : List Nat} (l : Lns ls rs n) (h1 : 10 ∉ T) (h2 : T.length ≤ 400) (h3 : toks T = r.2) (h4 : r.2 ≠ []) : Lns (ls ++ [T]) (rs ++ [r]) (n + 1) := by
  refine ⟨fun x hx => ?_, fun x hx => ?_, by rw [List.length_append]; have := l.few; simp; omega, ?_⟩
  · rcases List.mem_append.mp hx with e | e
    · exact l.nl x e
    · rw [List.mem_singleton.mp e]; exact h1
  · rcases List.mem_append.mp hx with e | e
    · exact l.le x e
    · rw [List.mem_singleton.mp e]; exact h2
  · rw [List.map_append, List.filter_append, l.tk, List.map_cons, h3, List.map_append, List.map_nil, List.filter_cons_of_pos (by simpa using h4)]; rfl
abbrev stL (b ra p : Addr) (v3 v4 v5 v6 v7 : Option D) : DS := [some (.ref b), some (.ref ra), some (.ref p), v3, v4, v5, v6, v7]
/-- one row, written loosely -/
theorem loose_5 {K : Nat} {w : DW} {b ra p : Addr} {v4 v5 v6 v7 : Option D} {h hh : DH} {m : MO} {ls : List (List Nat)} {rs : List Row} {r : Row} {n : Nat} {E : DEnds} (hK : 1 ≤ K) (hm : BoxM m) (bp : b ≠ p) (hr : RowOk r) (hl : Lns ls rs n) (hn : n ≤ 2000)
    (hle : Le (hpL h b p m ls) hh) (nx : ∀ ls' v3 v4 v5 v6 v7 hh' m', BoxM m' → Lns ls' (rs ++ [r]) (n + 1) → Le (hpL h b p m' ls') hh' → E.nx (stL b ra p v3 v4 v5 v6 v7) hh') :
    tb_l_loose_5 (callD K) w E (stL b ra p (some (.str (rowT r))) v4 v5 v6 v7) hh := by
  have rl := hr.len
  have eb : hh b = some m := hle _ _ (by simp only [hpL, dup]; grind)
  have ep : hh p = some (.lst (ls.map .str)) := hle _ _ dup_same
  obtain ⟨i, ws⟩ := r
  cases ws with
  | nil => exact absurd rfl hr.ne
  | cons w0 wr =>
  have hw0 : WordOk w0 := hr.ws w0 (List.mem_cons_self ..)
  have hwl : wr.length ≤ 7 := by have := hr.le; simp at this; omega
  simp only [tb_l_loose_5, tb_l_loose_4, body, dstart, dSeq, dIf, dAsg, dRet, dRetN, dNext, dDrop, dTest, dAnd, dOr, dNot, dAndV, dOrV, dNotV, dIfE, dOp, dUn, dC, dVar_e, dNil, dCons, dTup, dLst, dCall, dM1, dL1_e, dSl, oNo, oSo, gSet, gUn, gsCons, gsNil, dStI_e, dYes, ex_eq, ex_eq1, ex_bl, ex_str, ex_int, ex_ref, ex_tup, ex_cons, ex_lst1, ex_ins1, ex_ds, split_1, qin_str, qnin_str, append_, add_ii, add_ss, add_tt, sub_ii, mul_ii, mul_si, div_ii, mod_ii, pow_ii, lt_ii, le_ii, gt_ii, ge_ii, neg_i, eq_ii, eq_ss, ne_ii, ne_ss, qix_tup, qix_cl, qix_str, at0, at1, at2, at3, qlen_tup, qlen_cl, qlen_str, toI_i, toI_b, toI_s, toS_i, toS_s, qsl_tup, qsl_cl, qsl_str, List.map_cons, List.map_nil, List.length_cons, List.length_nil, List.replicate, List.cons_append, List.nil_append, List.getElem?_cons_zero, List.getElem?_cons_succ, List.set_cons_zero, List.set_cons_succ, true_and, and_true, Nat.reduceAdd, Nat.reduceSub, decide_eq_true_eq]
  unfold dStrip
  simp only [body, dstart, dSeq, dIf, dAsg, dRet, dRetN, dNext, dDrop, dTest, dAnd, dOr, dNot, dAndV, dOrV, dNotV, dIfE, dOp, dUn, dC, dVar_e, dNil, dCons, dTup, dLst, dCall, dM1, dL1_e, dSl, oNo, oSo, gSet, gUn, gsCons, gsNil, dStI_e, dYes, ex_eq, ex_eq1, ex_bl, ex_str, ex_int, ex_ref, ex_tup, ex_cons, ex_lst1, ex_ins1, ex_ds, split_1, qin_str, qnin_str, append_, add_ii, add_ss, add_tt, sub_ii, mul_ii, mul_si, div_ii, mod_ii, pow_ii, lt_ii, le_ii, gt_ii, ge_ii, neg_i, eq_ii, eq_ss, ne_ii, ne_ss, qix_tup, qix_cl, qix_str, at0, at1, at2, at3, qlen_tup, qlen_cl, qlen_str, toI_i, toI_b, toI_s, toS_i, toS_s, qsl_tup, qsl_cl, qsl_str, List.map_cons, List.map_nil, List.length_cons, List.length_nil, List.replicate, List.cons_append, List.nil_append, List.getElem?_cons_zero, List.getElem?_cons_succ, List.set_cons_zero, List.set_cons_succ, true_and, and_true, Nat.reduceAdd, Nat.reduceSub, decide_eq_true_eq]
  refine ⟨by unfold sizeLine; omega, ?_⟩
  rw [strip_row hr]
  simp only [body, dstart, dSeq, dIf, dAsg, dRet, dRetN, dNext, dDrop, dTest, dAnd, dOr, dNot, dAndV, dOrV, dNotV, dIfE, dOp, dUn, dC, dVar_e, dNil, dCons, dTup, dLst, dCall, dM1, dL1_e, dSl, oNo, oSo, gSet, gUn, gsCons, gsNil, dStI_e, dYes, ex_eq, ex_eq1, ex_bl, ex_str, ex_int, ex_ref, ex_tup, ex_cons, ex_lst1, ex_ins1, ex_ds, split_1, qin_str, qnin_str, append_, add_ii, add_ss, add_tt, sub_ii, mul_ii, mul_si, div_ii, mod_ii, pow_ii, lt_ii, le_ii, gt_ii, ge_ii, neg_i, eq_ii, eq_ss, ne_ii, ne_ss, qix_tup, qix_cl, qix_str, at0, at1, at2, at3, qlen_tup, qlen_cl, qlen_str, toI_i, toI_b, toI_s, toS_i, toS_s, qsl_tup, qsl_cl, qsl_str, List.map_cons, List.map_nil, List.length_cons, List.length_nil, List.replicate, List.cons_append, List.nil_append, List.getElem?_cons_zero, List.getElem?_cons_succ, List.set_cons_zero, List.set_cons_succ, true_and, and_true, Nat.reduceAdd, Nat.reduceSub, decide_eq_true_eq]
  rw [split_1 (by decide)]
  have jl := joined (ts := w0 :: wr) hr.le hr.ws
  refine ⟨by unfold sizeLine; omega, fun p5 hp5 => ?_⟩
  rw [TL.spl_join (by simp) fun w hw => (hr.ws w hw).nb]
  have b5 : b ≠ p5 := free_ne eb hp5
  have q5 : p ≠ p5 := free_ne ep hp5
  have e5 : ∀ m', dup (dup hh p5 (.lst (.str w0 :: wr.map .str))) b m' p5 = some (.lst (.str w0 :: wr.map .str)) := fun m' => by rw [dup_ne (Ne.symm b5), dup_same]
  refine take_k hK (by rw [dup_ne b5]; exact eb) hm (by decide) (by decide) fun a m1 h1 a0 a1 => ?_
  obtain ⟨a, rfl⟩ := Int.eq_ofNat_of_zero_le a0
  simp only [body, dstart, dSeq, dIf, dAsg, dRet, dRetN, dNext, dDrop, dTest, dAnd, dOr, dNot, dAndV, dOrV, dNotV, dIfE, dOp, dUn, dC, dVar_e, dNil, dCons, dTup, dLst, dCall, dM1, dL1_e, dSl, oNo, oSo, gSet, gUn, gsCons, gsNil, dStI_e, dYes, ex_eq, ex_eq1, ex_bl, ex_str, ex_int, ex_ref, ex_tup, ex_cons, ex_lst1, ex_ins1, ex_ds, split_1, qin_str, qnin_str, append_, add_ii, add_ss, add_tt, sub_ii, mul_ii, mul_si, div_ii, mod_ii, pow_ii, lt_ii, le_ii, gt_ii, ge_ii, neg_i, eq_ii, eq_ss, ne_ii, ne_ss, qix_tup, qix_cl, qix_str, at0, at1, at2, at3, qlen_tup, qlen_cl, qlen_str, toI_i, toI_b, toI_s, toS_i, toS_s, qsl_tup, qsl_cl, qsl_str, List.map_cons, List.map_nil, List.length_cons, List.length_nil, List.replicate, List.cons_append, List.nil_append, List.getElem?_cons_zero, List.getElem?_cons_succ, List.set_cons_zero, List.set_cons_succ, true_and, and_true, Nat.reduceAdd, Nat.reduceSub, decide_eq_true_eq, qix_ref (e5 m1), rep_flat, Int.toNat_natCast]
  have hw0l := hw0.le
  refine ⟨by omega, by omega, by unfold sizeLine; omega, by rw [List.length_replicate]; unfold sizeLine; omega, ?_⟩
  simp only [tb_l_loose_3, dFor, iAny, body, dstart, dSeq, dIf, dAsg, dRet, dRetN, dNext, dDrop, dTest, dAnd, dOr, dNot, dAndV, dOrV, dNotV, dIfE, dOp, dUn, dC, dVar_e, dNil, dCons, dTup, dLst, dCall, dM1, dL1_e, dSl, oNo, oSo, gSet, gUn, gsCons, gsNil, dStI_e, dYes, ex_eq, ex_eq1, ex_bl, ex_str, ex_int, ex_ref, ex_tup, ex_cons, ex_lst1, ex_ins1, ex_ds, split_1, qin_str, qnin_str, append_, add_ii, add_ss, add_tt, sub_ii, mul_ii, mul_si, div_ii, mod_ii, pow_ii, lt_ii, le_ii, gt_ii, ge_ii, neg_i, eq_ii, eq_ss, ne_ii, ne_ss, qix_tup, qix_cl, qix_str, at0, at1, at2, at3, qlen_tup, qlen_cl, qlen_str, toI_i, toI_b, toI_s, toS_i, toS_s, qsl_tup, qsl_cl, qsl_str, List.map_cons, List.map_nil, List.length_cons, List.length_nil, List.replicate, List.cons_append, List.nil_append, List.getElem?_cons_zero, List.getElem?_cons_succ, List.set_cons_zero, List.set_cons_succ, true_and, and_true, Nat.reduceAdd, Nat.reduceSub, decide_eq_true_eq, qsl_ref (e5 m1)]
  refine fun p6 hp6 => ?_
  rw [show (some (1 : Int)) = some ((1 : Nat) : Int) from rfl, cut_drop, List.drop_succ_cons, List.drop_zero]
  have n6 : p6 ≠ b ∧ p6 ≠ p5 ∧ p6 ≠ p ∧ hh p6 = none := by simp only [dup] at hp6; grind
  have q6 : h p6 = none ∨ h p6 ≠ none := by cases h p6 <;> simp
  have q6 : h p6 = none := by
    cases e : h p6 with
    | none => rfl
    | some o =>
      have := hle p6 o (by simp only [hpL, dup]; grind)
      rw [n6.2.2.2] at this; cases this
  refine ⟨_, dup_same, wk1 (h' := dup (hpL h b p m1 ls) p6 (.lst (wr.map .str))) ?_ (for_ind (fun rem s h2 => ∃ (m' : MO) (T : List Nat) (dn rest : List (List Nat)) (v7 : Option D), rem = rest.map D.str ∧ wr = dn ++ rest ∧ Tk T (w0 :: dn) ∧ T.length ≤ 21 + 21 * dn.length ∧ 10 ∉ T ∧ BoxM m' ∧
    Le (dup (hpL h b p m' ls) p6 (.lst (wr.map .str))) h2 ∧ s = stL b ra p (some (.str (rowT (i, w0 :: wr)))) v4 (some (.ref p5)) (some (.str T)) v7) ?_ ?_ _ _ _ ⟨m1, _, [], wr, _, rfl, rfl, Tk.first hw0 a, ?_, ?_, h1, .refl _, rfl⟩)⟩
  · intro a o e
    have := hle a o
    simp only [hpL, dup] at this e hp6 ⊢
    grind
  · rintro s h2 ⟨m', T, dn, rest, v7, e1, e2, tk, tl, tn, hm', hle', rfl⟩
    have eb' : h2 b = some m' := hle' _ _ (by simp only [hpL, dup]; grind)
    have ep' : h2 p = some (.lst (ls.map .str)) := hle' _ _ (by simp only [hpL, dup]; grind)
    have e6 : h2 p6 = some (.lst (wr.map .str)) := hle' _ _ dup_same
    have rest0 : rest = [] := by cases rest with | nil => rfl | cons => cases e1
    subst rest0
    rw [List.append_nil] at e2
    subst e2
    refine ⟨e6, ?_⟩
    simp only [body, dstart, dSeq, dIf, dAsg, dRet, dRetN, dNext, dDrop, dTest, dAnd, dOr, dNot, dAndV, dOrV, dNotV, dIfE, dOp, dUn, dC, dVar_e, dNil, dCons, dTup, dLst, dCall, dM1, dL1_e, dSl, oNo, oSo, gSet, gUn, gsCons, gsNil, dStI_e, dYes, ex_eq, ex_eq1, ex_bl, ex_str, ex_int, ex_ref, ex_tup, ex_cons, ex_lst1, ex_ins1, ex_ds, split_1, qin_str, qnin_str, append_, add_ii, add_ss, add_tt, sub_ii, mul_ii, mul_si, div_ii, mod_ii, pow_ii, lt_ii, le_ii, gt_ii, ge_ii, neg_i, eq_ii, eq_ss, ne_ii, ne_ss, qix_tup, qix_cl, qix_str, at0, at1, at2, at3, qlen_tup, qlen_cl, qlen_str, toI_i, toI_b, toI_s, toS_i, toS_s, qsl_tup, qsl_cl, qsl_str, List.map_cons, List.map_nil, List.length_cons, List.length_nil, List.replicate, List.cons_append, List.nil_append, List.getElem?_cons_zero, List.getElem?_cons_succ, List.set_cons_zero, List.set_cons_succ, true_and, and_true, Nat.reduceAdd, Nat.reduceSub, decide_eq_true_eq]
    rw [l1_ ep']
    simp only [body, dstart, dSeq, dIf, dAsg, dRet, dRetN, dNext, dDrop, dTest, dAnd, dOr, dNot, dAndV, dOrV, dNotV, dIfE, dOp, dUn, dC, dVar_e, dNil, dCons, dTup, dLst, dCall, dM1, dL1_e, dSl, oNo, oSo, gSet, gUn, gsCons, gsNil, dStI_e, dYes, ex_eq, ex_eq1, ex_bl, ex_str, ex_int, ex_ref, ex_tup, ex_cons, ex_lst1, ex_ins1, ex_ds, split_1, qin_str, qnin_str, append_, add_ii, add_ss, add_tt, sub_ii, mul_ii, mul_si, div_ii, mod_ii, pow_ii, lt_ii, le_ii, gt_ii, ge_ii, neg_i, eq_ii, eq_ss, ne_ii, ne_ss, qix_tup, qix_cl, qix_str, at0, at1, at2, at3, qlen_tup, qlen_cl, qlen_str, toI_i, toI_b, toI_s, toS_i, toS_s, qsl_tup, qsl_cl, qsl_str, List.map_cons, List.map_nil, List.length_cons, List.length_nil, List.replicate, List.cons_append, List.nil_append, List.getElem?_cons_zero, List.getElem?_cons_succ, List.set_cons_zero, List.set_cons_succ, true_and, and_true, Nat.reduceAdd, Nat.reduceSub, decide_eq_true_eq]
    refine take_k hK eb' hm' (by decide) (by decide) fun c m2 h3 c0 c1 => ?_
    obtain ⟨c, rfl⟩ := Int.eq_ofNat_of_zero_le c0
    simp only [body, dstart, dSeq, dIf, dAsg, dRet, dRetN, dNext, dDrop, dTest, dAnd, dOr, dNot, dAndV, dOrV, dNotV, dIfE, dOp, dUn, dC, dVar_e, dNil, dCons, dTup, dLst, dCall, dM1, dL1_e, dSl, oNo, oSo, gSet, gUn, gsCons, gsNil, dStI_e, dYes, ex_eq, ex_eq1, ex_bl, ex_str, ex_int, ex_ref, ex_tup, ex_cons, ex_lst1, ex_ins1, ex_ds, split_1, qin_str, qnin_str, append_, add_ii, add_ss, add_tt, sub_ii, mul_ii, mul_si, div_ii, mod_ii, pow_ii, lt_ii, le_ii, gt_ii, ge_ii, neg_i, eq_ii, eq_ss, ne_ii, ne_ss, qix_tup, qix_cl, qix_str, at0, at1, at2, at3, qlen_tup, qlen_cl, qlen_str, toI_i, toI_b, toI_s, toS_i, toS_s, qsl_tup, qsl_cl, qsl_str, List.map_cons, List.map_nil, List.length_cons, List.length_nil, List.replicate, List.cons_append, List.nil_append, List.getElem?_cons_zero, List.getElem?_cons_succ, List.set_cons_zero, List.set_cons_succ, true_and, and_true, Nat.reduceAdd, Nat.reduceSub, decide_eq_true_eq, rep_flat, Int.toNat_natCast]
    have lf := hl.few
    refine ⟨by omega, by omega, by unfold sizeLine; omega, by rw [List.length_replicate]; unfold sizeLine; omega, ls.map .str, by simp only [dup]; grind, by rw [List.length_map]; unfold sizeLine; omega, ?_⟩
    refine nx (ls ++ [T ++ List.replicate c 32]) _ _ _ _ _ _ m2 h3 (hl.row (r := (i, w0 :: wr)) ?_ ?_ (tk.fin c) (by simp)) ?_
    · intro e
      rcases List.mem_append.mp e with e | e
      · exact tn e
      · exact absurd (List.eq_of_mem_replicate e) (by decide)
    · rw [List.length_append, List.length_replicate]; omega
    · intro a o e
      have := hle' a o
      simp only [hpL, dup, List.map_append, List.map_cons, List.map_nil] at this e ⊢
      grind
  · rintro y rem s h2 ⟨m', T, dn, rest, v7, e1, e2, tk, tl, tn, hm', hle', rfl⟩
    cases rest with
    | nil => cases e1
    | cons w1 rest =>
    obtain ⟨rfl, rfl⟩ := List.cons.inj e1
    have hw1 : WordOk w1 := hr.ws w1 (by rw [e2]; simp)
    have hw1l := hw1.le
    have eb' : h2 b = some m' := hle' _ _ (by simp only [hpL, dup]; grind)
    have e6 : h2 p6 = some (.lst (wr.map .str)) := hle' _ _ dup_same
    have dl : dn.length ≤ 6 := by rw [e2] at hwl; simp at hwl; omega
    refine ⟨e6, fun F hF => ?_⟩
    simp only [tb_l_loose_2, gSet, body, dstart, dSeq, dIf, dAsg, dRet, dRetN, dNext, dDrop, dTest, dAnd, dOr, dNot, dAndV, dOrV, dNotV, dIfE, dOp, dUn, dC, dVar_e, dNil, dCons, dTup, dLst, dCall, dM1, dL1_e, dSl, oNo, oSo, gSet, gUn, gsCons, gsNil, dStI_e, dYes, ex_eq, ex_eq1, ex_bl, ex_str, ex_int, ex_ref, ex_tup, ex_cons, ex_lst1, ex_ins1, ex_ds, split_1, qin_str, qnin_str, append_, add_ii, add_ss, add_tt, sub_ii, mul_ii, mul_si, div_ii, mod_ii, pow_ii, lt_ii, le_ii, gt_ii, ge_ii, neg_i, eq_ii, eq_ss, ne_ii, ne_ss, qix_tup, qix_cl, qix_str, at0, at1, at2, at3, qlen_tup, qlen_cl, qlen_str, toI_i, toI_b, toI_s, toS_i, toS_s, qsl_tup, qsl_cl, qsl_str, List.map_cons, List.map_nil, List.length_cons, List.length_nil, List.replicate, List.cons_append, List.nil_append, List.getElem?_cons_zero, List.getElem?_cons_succ, List.set_cons_zero, List.set_cons_succ, true_and, and_true, Nat.reduceAdd, Nat.reduceSub, decide_eq_true_eq]
    refine take_k hK eb' hm' (by decide) (by decide) fun c m2 h3 c0 c1 => ?_
    obtain ⟨c, rfl⟩ := Int.eq_ofNat_of_zero_le c0
    have ec : (1 + (c : Int)).toNat = c + 1 := by omega
    generalize hc' : c + 1 = c' at ec
    simp only [body, dstart, dSeq, dIf, dAsg, dRet, dRetN, dNext, dDrop, dTest, dAnd, dOr, dNot, dAndV, dOrV, dNotV, dIfE, dOp, dUn, dC, dVar_e, dNil, dCons, dTup, dLst, dCall, dM1, dL1_e, dSl, oNo, oSo, gSet, gUn, gsCons, gsNil, dStI_e, dYes, ex_eq, ex_eq1, ex_bl, ex_str, ex_int, ex_ref, ex_tup, ex_cons, ex_lst1, ex_ins1, ex_ds, split_1, qin_str, qnin_str, append_, add_ii, add_ss, add_tt, sub_ii, mul_ii, mul_si, div_ii, mod_ii, pow_ii, lt_ii, le_ii, gt_ii, ge_ii, neg_i, eq_ii, eq_ss, ne_ii, ne_ss, qix_tup, qix_cl, qix_str, at0, at1, at2, at3, qlen_tup, qlen_cl, qlen_str, toI_i, toI_b, toI_s, toS_i, toS_s, qsl_tup, qsl_cl, qsl_str, List.map_cons, List.map_nil, List.length_cons, List.length_nil, List.replicate, List.cons_append, List.nil_append, List.getElem?_cons_zero, List.getElem?_cons_succ, List.set_cons_zero, List.set_cons_succ, true_and, and_true, Nat.reduceAdd, Nat.reduceSub, decide_eq_true_eq, rep_flat, ec]
    refine ⟨by omega, by omega, by unfold sizeLine; omega, by rw [List.length_replicate]; unfold sizeLine; omega, by rw [List.length_append, List.length_replicate]; unfold sizeLine; omega, ?_⟩
    refine hF _ _ _ (dup (hpL h b p m2 ls) p6 (.lst (wr.map .str))) ⟨rfl, fun _ _ e => e⟩ ?_ ⟨m2, _, dn ++ [w1], rest, _, rfl, by rw [e2]; simp, by rw [← hc']; exact tk.more hw1 c, ?_, ?_, h3, .refl _, rfl⟩
    · intro a o e
      have := hle' a o
      simp only [hpL, dup] at this e ⊢
      grind
    · simp only [List.length_append, List.length_replicate, List.length_cons, List.length_nil]; omega
    · intro e
      rcases List.mem_append.mp e with e | e
      · rcases List.mem_append.mp e with e | e
        · exact tn e
        · exact absurd (List.eq_of_mem_replicate e) (by decide)
      · exact hw1.nl e
  · simp only [List.length_append, List.length_replicate, List.length_nil]; omega
  · intro e
    rcases List.mem_append.mp e with e | e
    · exact absurd (List.eq_of_mem_replicate e) (by decide)
    · exact hw0.nl e
theorem loose_ok {K : Nat} {b ra : Addr} {h : DH} {m : MO} {rs : List Row} {q : DQ} {x : DX} (hK : 1 ≤ K) (hb : h b = some m) (hm : BoxM m) (hra : h ra = some (.lst (txs rs))) (bra : b ≠ ra) (hne : rs ≠ []) (hr : ∀ r ∈ rs, RowOk r) (hl : rs.length ≤ 900)
    (z : ∀ m' ls, BoxM m' → LinesOf ls rs → q (.str (TL.joinL [10] ls)) (dup h b m')) : (callD (K + 1)).l_loose [.ref b, .ref ra] h q x := by
  rw [cd_l_loose]; simp only [tb_l_loose, tb_l_loose_7, body, dstart, dSeq, dIf, dAsg, dRet, dRetN, dNext, dDrop, dTest, dAnd, dOr, dNot, dAndV, dOrV, dNotV, dIfE, dOp, dUn, dC, dVar_e, dNil, dCons, dTup, dLst, dCall, dM1, dL1_e, dSl, oNo, oSo, gSet, gUn, gsCons, gsNil, dStI_e, dYes, ex_eq, ex_eq1, ex_bl, ex_str, ex_int, ex_ref, ex_tup, ex_cons, ex_lst1, ex_ins1, ex_ds, split_1, qin_str, qnin_str, append_, add_ii, add_ss, add_tt, sub_ii, mul_ii, mul_si, div_ii, mod_ii, pow_ii, lt_ii, le_ii, gt_ii, ge_ii, neg_i, eq_ii, eq_ss, ne_ii, ne_ss, qix_tup, qix_cl, qix_str, at0, at1, at2, at3, qlen_tup, qlen_cl, qlen_str, toI_i, toI_b, toI_s, toS_i, toS_s, qsl_tup, qsl_cl, qsl_str, List.map_cons, List.map_nil, List.length_cons, List.length_nil, List.replicate, List.cons_append, List.nil_append, List.getElem?_cons_zero, List.getElem?_cons_succ, List.set_cons_zero, List.set_cons_succ, true_and, and_true, Nat.reduceAdd, Nat.reduceSub, decide_eq_true_eq]
  refine ⟨by decide, fun p hp => ?_⟩
  have bp : b ≠ p := free_ne hb hp
  have rp : ra ≠ p := free_ne hra hp
  simp only [dFor, iAny, body, dstart, dSeq, dIf, dAsg, dRet, dRetN, dNext, dDrop, dTest, dAnd, dOr, dNot, dAndV, dOrV, dNotV, dIfE, dOp, dUn, dC, dVar_e, dNil, dCons, dTup, dLst, dCall, dM1, dL1_e, dSl, oNo, oSo, gSet, gUn, gsCons, gsNil, dStI_e, dYes, ex_eq, ex_eq1, ex_bl, ex_str, ex_int, ex_ref, ex_tup, ex_cons, ex_lst1, ex_ins1, ex_ds, split_1, qin_str, qnin_str, append_, add_ii, add_ss, add_tt, sub_ii, mul_ii, mul_si, div_ii, mod_ii, pow_ii, lt_ii, le_ii, gt_ii, ge_ii, neg_i, eq_ii, eq_ss, ne_ii, ne_ss, qix_tup, qix_cl, qix_str, at0, at1, at2, at3, qlen_tup, qlen_cl, qlen_str, toI_i, toI_b, toI_s, toS_i, toS_s, qsl_tup, qsl_cl, qsl_str, List.map_cons, List.map_nil, List.length_cons, List.length_nil, List.replicate, List.cons_append, List.nil_append, List.getElem?_cons_zero, List.getElem?_cons_succ, List.set_cons_zero, List.set_cons_succ, true_and, and_true, Nat.reduceAdd, Nat.reduceSub, decide_eq_true_eq]
  refine ⟨_, by rw [dup_ne rp]; exact hra, wk0 (for_ind (fun rem s hh => ∃ (m' : MO) (ls : List (List Nat)) (done rest : List Row) (v3 v4 v5 v6 v7 : Option D), rem = txs rest ∧ done ++ rest = rs ∧ BoxM m' ∧ Lns ls done (2 * done.length) ∧ Le (hpL h b p m' ls) hh ∧ s = stL b ra p v3 v4 v5 v6 v7)
    ?_ ?_ _ _ _ ⟨m, [], [], rs, _, _, _, _, _, rfl, rfl, hm, ⟨by simp, by simp, by simp, rfl⟩, ?_, rfl⟩)⟩
  · rintro s hh ⟨m', ls, done, rest, v3, v4, v5, v6, v7, e1, e2, hm', hls, hle, rfl⟩
    have e0 : rest = [] := by cases rest with | nil => rfl | cons => cases e1
    subst e0
    rw [List.append_nil] at e2
    subst e2
    have era : hh ra = some (.lst (txs done)) := hle _ _ (by simp only [hpL, dup]; grind)
    have eb : hh b = some m' := hle _ _ (by simp only [hpL, dup]; grind)
    have ep : hh p = some (.lst (ls.map .str)) := hle _ _ dup_same
    refine ⟨era, ?_⟩
    simp only [body, dstart, dSeq, dIf, dAsg, dRet, dRetN, dNext, dDrop, dTest, dAnd, dOr, dNot, dAndV, dOrV, dNotV, dIfE, dOp, dUn, dC, dVar_e, dNil, dCons, dTup, dLst, dCall, dM1, dL1_e, dSl, oNo, oSo, gSet, gUn, gsCons, gsNil, dStI_e, dYes, ex_eq, ex_eq1, ex_bl, ex_str, ex_int, ex_ref, ex_tup, ex_cons, ex_lst1, ex_ins1, ex_ds, split_1, qin_str, qnin_str, append_, add_ii, add_ss, add_tt, sub_ii, mul_ii, mul_si, div_ii, mod_ii, pow_ii, lt_ii, le_ii, gt_ii, ge_ii, neg_i, eq_ii, eq_ss, ne_ii, ne_ss, qix_tup, qix_cl, qix_str, at0, at1, at2, at3, qlen_tup, qlen_cl, qlen_str, toI_i, toI_b, toI_s, toS_i, toS_s, qsl_tup, qsl_cl, qsl_str, List.map_cons, List.map_nil, List.length_cons, List.length_nil, List.replicate, List.cons_append, List.nil_append, List.getElem?_cons_zero, List.getElem?_cons_succ, List.set_cons_zero, List.set_cons_succ, true_and, and_true, Nat.reduceAdd, Nat.reduceSub, decide_eq_true_eq]
    refine ⟨by decide, fun p2 hp2 => ?_⟩
    have n2 : b ≠ p2 ∧ p ≠ p2 := ⟨free_ne eb hp2, free_ne ep hp2⟩
    refine take_k (by omega) (by rw [dup_ne n2.1]; exact eb) hm' (by decide) (by decide) fun c m2 h2 c0 c1 => ?_
    obtain ⟨c, rfl⟩ := Int.eq_ofNat_of_zero_le c0
    rw [mul_li (ds := [.str []]) (by simp only [dup]; grind)]
    have lf := hls.few
    refine ⟨by omega, by omega, by simp only [List.length_cons, List.length_nil]; unfold sizeLine; omega, fun p3 hp3 => ?_⟩
    have n3 : p ≠ p3 ∧ b ≠ p3 := by simp only [dup] at hp3; constructor <;> (intro e; subst e; grind)
    rw [add_ll (ds := ls.map .str) (by simp only [dup]; grind) dup_same]
    have fl : ((List.replicate (c : Int).toNat [D.str []]).flatten : List D) = (List.replicate c ([] : List Nat)).map .str := by
      rw [Int.toNat_natCast]
      clear c1 c0 hp3
      induction c with
      | zero => rfl
      | succ c ih => rw [List.replicate_succ, List.flatten_cons, ih, List.replicate_succ]; rfl
    rw [fl]
    refine ⟨by rw [List.length_map, List.length_map, List.length_replicate]; unfold sizeLine; omega, fun p4 hp4 => ?_⟩
    rw [← List.map_append, join_ref dup_same]
    have lo : LinesOf (ls ++ List.replicate c []) done := by
      refine ⟨?_, ?_, ?_, by rw [List.length_append, List.length_replicate]; omega, ?_⟩
      · intro e
        have : ls = [] := (List.append_eq_nil_iff.mp e).1
        have := hls.tk
        rw [‹ls = []›] at this
        exact hne (List.map_eq_nil_iff.mp this.symm)
      · intro l hl2
        rcases List.mem_append.mp hl2 with e | e
        · exact hls.nl l e
        · rw [List.eq_of_mem_replicate e]; simp
      · intro l hl2
        rcases List.mem_append.mp hl2 with e | e
        · exact hls.le l e
        · rw [List.eq_of_mem_replicate e]; simp
      · have e : (List.replicate c ([] : List Nat)).map toks = List.replicate c [] := by rw [List.map_replicate]; rfl
        have e2 : (List.replicate c ([] : List (List Nat))).filter (fun w => decide (w ≠ [])) = [] := by
          rw [List.filter_eq_nil_iff]; intro a ha; rw [List.eq_of_mem_replicate ha]; simp
        rw [List.map_append, List.filter_append, hls.tk, e, e2, List.append_nil]
    refine ⟨?_, wkq ?_ (z m2 _ h2 lo)⟩
    · have s1 := sum_le (n := 400) (ws := ls ++ List.replicate c []) lo.le
      have s2 := lo.few
      have : (ls ++ List.replicate c []).length * 400 ≤ 3000 * 400 := Nat.mul_le_mul s2 (Nat.le_refl _)
      simp only [List.length_cons, List.length_nil]
      omega
    · intro a o e
      have := hle a o
      simp only [hpL, dup] at this e hp2 hp3 hp4 ⊢
      grind
  · rintro y rem s hh ⟨m', ls, done, rest, v3, v4, v5, v6, v7, e1, e2, hm', hls, hle, rfl⟩
    cases rest with
    | nil => cases e1
    | cons r rest =>
    obtain ⟨rfl, rfl⟩ := List.cons.inj e1
    have era : hh ra = some (.lst (txs rs)) := hle _ _ (by simp only [hpL, dup]; grind)
    have eb : hh b = some m' := hle _ _ (by simp only [hpL, dup]; grind)
    have dl : done.length ≤ 900 := by rw [← e2] at hl; simp at hl; omega
    refine ⟨era, fun F hF => ?_⟩
    simp only [tb_l_loose_6, dFor, ML.iRng1, gSet, body, dstart, dSeq, dIf, dAsg, dRet, dRetN, dNext, dDrop, dTest, dAnd, dOr, dNot, dAndV, dOrV, dNotV, dIfE, dOp, dUn, dC, dVar_e, dNil, dCons, dTup, dLst, dCall, dM1, dL1_e, dSl, oNo, oSo, gSet, gUn, gsCons, gsNil, dStI_e, dYes, ex_eq, ex_eq1, ex_bl, ex_str, ex_int, ex_ref, ex_tup, ex_cons, ex_lst1, ex_ins1, ex_ds, split_1, qin_str, qnin_str, append_, add_ii, add_ss, add_tt, sub_ii, mul_ii, mul_si, div_ii, mod_ii, pow_ii, lt_ii, le_ii, gt_ii, ge_ii, neg_i, eq_ii, eq_ss, ne_ii, ne_ss, qix_tup, qix_cl, qix_str, at0, at1, at2, at3, qlen_tup, qlen_cl, qlen_str, toI_i, toI_b, toI_s, toS_i, toS_s, qsl_tup, qsl_cl, qsl_str, List.map_cons, List.map_nil, List.length_cons, List.length_nil, List.replicate, List.cons_append, List.nil_append, List.getElem?_cons_zero, List.getElem?_cons_succ, List.set_cons_zero, List.set_cons_succ, true_and, and_true, Nat.reduceAdd, Nat.reduceSub, decide_eq_true_eq]
    refine take_k (by omega) eb hm' (by decide) (by decide) fun c m2 h2 c0 c1 => ?_
    simp only [body, dstart, dSeq, dIf, dAsg, dRet, dRetN, dNext, dDrop, dTest, dAnd, dOr, dNot, dAndV, dOrV, dNotV, dIfE, dOp, dUn, dC, dVar_e, dNil, dCons, dTup, dLst, dCall, dM1, dL1_e, dSl, oNo, oSo, gSet, gUn, gsCons, gsNil, dStI_e, dYes, ex_eq, ex_eq1, ex_bl, ex_str, ex_int, ex_ref, ex_tup, ex_cons, ex_lst1, ex_ins1, ex_ds, split_1, qin_str, qnin_str, append_, add_ii, add_ss, add_tt, sub_ii, mul_ii, mul_si, div_ii, mod_ii, pow_ii, lt_ii, le_ii, gt_ii, ge_ii, neg_i, eq_ii, eq_ss, ne_ii, ne_ss, qix_tup, qix_cl, qix_str, at0, at1, at2, at3, qlen_tup, qlen_cl, qlen_str, toI_i, toI_b, toI_s, toS_i, toS_s, qsl_tup, qsl_cl, qsl_str, List.map_cons, List.map_nil, List.length_cons, List.length_nil, List.replicate, List.cons_append, List.nil_append, List.getElem?_cons_zero, List.getElem?_cons_succ, List.set_cons_zero, List.set_cons_succ, true_and, and_true, Nat.reduceAdd, Nat.reduceSub, decide_eq_true_eq]
    refine ⟨⟨by decide, by decide⟩, by omega, by omega, wk1 (h' := hpL h b p m2 ls) ?_ (for_ind (fun rem s h2 => ∃ (m' : MO) (ls' : List (List Nat)) (v4 v5 v6 v7 : Option D) (j : Nat), BoxM m' ∧ Lns ls' done j ∧ j + rem.length ≤ 2 * done.length + 1 ∧ Le (hpL h b p m' ls') h2 ∧ s = stL b ra p (some (.str (rowT r))) v4 v5 v6 v7)
      ?_ ?_ _ _ _ ⟨m2, ls, _, _, _, _, 2 * done.length, h2, hls, ?_, .refl _, rfl⟩)⟩
    · intro a o e
      have := hle a o
      simp only [hpL, dup] at this e ⊢
      grind
    · rintro s h3 ⟨m3, ls', v4, v5, v6, v7, j, hm3, hls3, hj, hle3, rfl⟩
      refine ⟨trivial, ?_⟩
      have hr' := hr r (by rw [← e2]; simp)
      refine loose_5 (by omega) hm3 bp hr' (n := 2 * done.length + 1) ⟨hls3.nl, hls3.le, by have := hls3.few; simp at hj; omega, hls3.tk⟩ (by omega) hle3 fun ls4 v3 v4 v5 v6 v7 h4 m4 hm4 hl4 le4 => hF _ _ _ _ ⟨rfl, fun _ _ e => e⟩ (.refl _) ⟨m4, ls4, done ++ [r], rest, _, _, _, _, _, rfl, by rw [← e2]; simp, hm4, ?_, le4, rfl⟩
      exact ⟨hl4.nl, hl4.le, by have := hl4.few; simp; omega, hl4.tk⟩
    · rintro y rem s h3 ⟨m3, ls', v4, v5, v6, v7, j, hm3, hls3, hj, hle3, rfl⟩
      have eb3 : h3 b = some m3 := hle3 _ _ (by simp only [hpL, dup]; grind)
      have ep3 : h3 p = some (.lst (ls'.map .str)) := hle3 _ _ dup_same
      refine ⟨trivial, fun G hG => ?_⟩
      simp only [tb_l_loose_1, gSet, body, dstart, dSeq, dIf, dAsg, dRet, dRetN, dNext, dDrop, dTest, dAnd, dOr, dNot, dAndV, dOrV, dNotV, dIfE, dOp, dUn, dC, dVar_e, dNil, dCons, dTup, dLst, dCall, dM1, dL1_e, dSl, oNo, oSo, gSet, gUn, gsCons, gsNil, dStI_e, dYes, ex_eq, ex_eq1, ex_bl, ex_str, ex_int, ex_ref, ex_tup, ex_cons, ex_lst1, ex_ins1, ex_ds, split_1, qin_str, qnin_str, append_, add_ii, add_ss, add_tt, sub_ii, mul_ii, mul_si, div_ii, mod_ii, pow_ii, lt_ii, le_ii, gt_ii, ge_ii, neg_i, eq_ii, eq_ss, ne_ii, ne_ss, qix_tup, qix_cl, qix_str, at0, at1, at2, at3, qlen_tup, qlen_cl, qlen_str, toI_i, toI_b, toI_s, toS_i, toS_s, qsl_tup, qsl_cl, qsl_str, List.map_cons, List.map_nil, List.length_cons, List.length_nil, List.replicate, List.cons_append, List.nil_append, List.getElem?_cons_zero, List.getElem?_cons_succ, List.set_cons_zero, List.set_cons_succ, true_and, and_true, Nat.reduceAdd, Nat.reduceSub, decide_eq_true_eq]
      rw [l1_ ep3]
      simp only [body, dstart, dSeq, dIf, dAsg, dRet, dRetN, dNext, dDrop, dTest, dAnd, dOr, dNot, dAndV, dOrV, dNotV, dIfE, dOp, dUn, dC, dVar_e, dNil, dCons, dTup, dLst, dCall, dM1, dL1_e, dSl, oNo, oSo, gSet, gUn, gsCons, gsNil, dStI_e, dYes, ex_eq, ex_eq1, ex_bl, ex_str, ex_int, ex_ref, ex_tup, ex_cons, ex_lst1, ex_ins1, ex_ds, split_1, qin_str, qnin_str, append_, add_ii, add_ss, add_tt, sub_ii, mul_ii, mul_si, div_ii, mod_ii, pow_ii, lt_ii, le_ii, gt_ii, ge_ii, neg_i, eq_ii, eq_ss, ne_ii, ne_ss, qix_tup, qix_cl, qix_str, at0, at1, at2, at3, qlen_tup, qlen_cl, qlen_str, toI_i, toI_b, toI_s, toS_i, toS_s, qsl_tup, qsl_cl, qsl_str, List.map_cons, List.map_nil, List.length_cons, List.length_nil, List.replicate, List.cons_append, List.nil_append, List.getElem?_cons_zero, List.getElem?_cons_succ, List.set_cons_zero, List.set_cons_succ, true_and, and_true, Nat.reduceAdd, Nat.reduceSub, decide_eq_true_eq]
      refine take_k (by omega) eb3 hm3 (by decide) (by decide) fun e m4 hm4 e0 e1 => ?_
      obtain ⟨e, rfl⟩ := Int.eq_ofNat_of_zero_le e0
      simp only [body, dstart, dSeq, dIf, dAsg, dRet, dRetN, dNext, dDrop, dTest, dAnd, dOr, dNot, dAndV, dOrV, dNotV, dIfE, dOp, dUn, dC, dVar_e, dNil, dCons, dTup, dLst, dCall, dM1, dL1_e, dSl, oNo, oSo, gSet, gUn, gsCons, gsNil, dStI_e, dYes, ex_eq, ex_eq1, ex_bl, ex_str, ex_int, ex_ref, ex_tup, ex_cons, ex_lst1, ex_ins1, ex_ds, split_1, qin_str, qnin_str, append_, add_ii, add_ss, add_tt, sub_ii, mul_ii, mul_si, div_ii, mod_ii, pow_ii, lt_ii, le_ii, gt_ii, ge_ii, neg_i, eq_ii, eq_ss, ne_ii, ne_ss, qix_tup, qix_cl, qix_str, at0, at1, at2, at3, qlen_tup, qlen_cl, qlen_str, toI_i, toI_b, toI_s, toS_i, toS_s, qsl_tup, qsl_cl, qsl_str, List.map_cons, List.map_nil, List.length_cons, List.length_nil, List.replicate, List.cons_append, List.nil_append, List.getElem?_cons_zero, List.getElem?_cons_succ, List.set_cons_zero, List.set_cons_succ, true_and, and_true, Nat.reduceAdd, Nat.reduceSub, decide_eq_true_eq, rep_flat, Int.toNat_natCast]
      have lf := hls3.few
      refine ⟨by omega, by omega, by unfold sizeLine; omega, ls'.map .str, by simp only [dup]; grind, by rw [List.length_map]; unfold sizeLine; omega, ?_⟩
      refine hG _ _ _ (hpL h b p m4 (ls' ++ [List.replicate e 32])) ⟨rfl, fun _ _ e => e⟩ ?_ ⟨m4, _, _, _, _, _, j + 1, hm4, hls3.blank (by omega), by simp at hj ⊢; omega, .refl _, rfl⟩
      intro a o e
      have := hle3 a o
      simp only [hpL, dup, List.map_append, List.map_cons, List.map_nil] at this e ⊢
      grind
    · rw [rngD_len]; omega
  · intro a o e
    simp only [hpL, dup] at e ⊢
    grind
end k60

set_option Elab.async false
set_option linter.all false
set_option maxRecDepth 100000
set_option maxHeartbeats 1000000
namespace k60
open PySem PySem.Spec PyProof.Rows L2 ML
/-! ### reading: words -/
theorem made_of_ok {K : Nat} {z S : List Nat} {h : DH} {q : DQ} {x : DX} (hK : 1 ≤ K) (hz : z ≠ []) (hs : ∀ c ∈ z, c ∈ S) (k : q (.bl true) h) : (callD K).made_of [.str z, .str S] h q x := by
  obtain ⟨jj, rfl⟩ := Nat.exists_eq_add_of_le' hK
  rw [cd_made_of]; simp only [tb_made_of, dFor, iAny, body, dstart, dSeq, dIf, dAsg, dRet, dRetN, dNext, dDrop, dTest, dAnd, dOr, dNot, dAndV, dOrV, dNotV, dIfE, dOp, dUn, dC, dVar_e, dNil, dCons, dTup, dLst, dCall, dM1, dL1_e, dSl, oNo, oSo, gSet, gUn, gsCons, gsNil, dStI_e, dYes, ex_eq, ex_eq1, ex_bl, ex_str, ex_int, ex_ref, ex_tup, ex_cons, ex_lst1, ex_ins1, ex_ds, dFld_e, dStF_e, dMeth_e, split_1, qin_str, qnin_str, append_, add_ii, add_ss, add_tt, sub_ii, mul_ii, mul_si, div_ii, mod_ii, pow_ii, lt_ii, le_ii, gt_ii, ge_ii, neg_i, eq_ii, eq_ss, ne_ii, ne_ss, qix_tup, qix_cl, qix_str, at0, at1, at2, at3, qlen_tup, qlen_cl, qlen_str, toI_i, toI_b, toI_s, toS_i, toS_s, qsl_tup, qsl_cl, qsl_str, List.map_cons, List.map_nil, List.length_cons, List.length_nil, List.replicate, List.cons_append, List.nil_append, List.getElem?_cons_zero, List.getElem?_cons_succ, List.set_cons_zero, List.set_cons_succ, true_and, and_true, Nat.reduceAdd, Nat.reduceSub, decide_eq_true_eq]
  refine wk0 (for_ind (fun rem s hh => ∃ v2, hh = h ∧ (∀ y ∈ rem, ∃ c, c ∈ S ∧ y = .str [c]) ∧ s = [some (.str z), some (.str S), v2]) ?_ ?_ _ _ _ ⟨_, rfl, ?_, rfl⟩)
  · rintro s hh ⟨v2, rfl, _, rfl⟩
    refine ⟨trivial, ?_⟩
    simp only [body, dstart, dSeq, dIf, dAsg, dRet, dRetN, dNext, dDrop, dTest, dAnd, dOr, dNot, dAndV, dOrV, dNotV, dIfE, dOp, dUn, dC, dVar_e, dNil, dCons, dTup, dLst, dCall, dM1, dL1_e, dSl, oNo, oSo, gSet, gUn, gsCons, gsNil, dStI_e, dYes, ex_eq, ex_eq1, ex_bl, ex_str, ex_int, ex_ref, ex_tup, ex_cons, ex_lst1, ex_ins1, ex_ds, dFld_e, dStF_e, dMeth_e, split_1, qin_str, qnin_str, append_, add_ii, add_ss, add_tt, sub_ii, mul_ii, mul_si, div_ii, mod_ii, pow_ii, lt_ii, le_ii, gt_ii, ge_ii, neg_i, eq_ii, eq_ss, ne_ii, ne_ss, qix_tup, qix_cl, qix_str, at0, at1, at2, at3, qlen_tup, qlen_cl, qlen_str, toI_i, toI_b, toI_s, toS_i, toS_s, qsl_tup, qsl_cl, qsl_str, List.map_cons, List.map_nil, List.length_cons, List.length_nil, List.replicate, List.cons_append, List.nil_append, List.getElem?_cons_zero, List.getElem?_cons_succ, List.set_cons_zero, List.set_cons_succ, true_and, and_true, Nat.reduceAdd, Nat.reduceSub, decide_eq_true_eq]
    rw [show decide (z = []) = false from decide_eq_false hz]
    exact wkq0 k
  · rintro y rem s hh ⟨v2, rfl, hy, rfl⟩
    obtain ⟨c, hc, rfl⟩ := hy y (List.mem_cons_self ..)
    refine ⟨trivial, fun F hF => ?_⟩
    simp only [gSet, tb_made_of_1, body, dstart, dSeq, dIf, dAsg, dRet, dRetN, dNext, dDrop, dTest, dAnd, dOr, dNot, dAndV, dOrV, dNotV, dIfE, dOp, dUn, dC, dVar_e, dNil, dCons, dTup, dLst, dCall, dM1, dL1_e, dSl, oNo, oSo, gSet, gUn, gsCons, gsNil, dStI_e, dYes, ex_eq, ex_eq1, ex_bl, ex_str, ex_int, ex_ref, ex_tup, ex_cons, ex_lst1, ex_ins1, ex_ds, dFld_e, dStF_e, dMeth_e, split_1, qin_str, qnin_str, append_, add_ii, add_ss, add_tt, sub_ii, mul_ii, mul_si, div_ii, mod_ii, pow_ii, lt_ii, le_ii, gt_ii, ge_ii, neg_i, eq_ii, eq_ss, ne_ii, ne_ss, qix_tup, qix_cl, qix_str, at0, at1, at2, at3, qlen_tup, qlen_cl, qlen_str, toI_i, toI_b, toI_s, toS_i, toS_s, qsl_tup, qsl_cl, qsl_str, List.map_cons, List.map_nil, List.length_cons, List.length_nil, List.replicate, List.cons_append, List.nil_append, List.getElem?_cons_zero, List.getElem?_cons_succ, List.set_cons_zero, List.set_cons_succ, true_and, and_true, Nat.reduceAdd, Nat.reduceSub, decide_eq_true_eq]
    rw [show decide (c ∈ S) = true from decide_eq_true hc]
    simp only [Bool.not_true, Bool.false_eq_true, if_false]
    exact hF _ _ _ _ ⟨rfl, fun _ _ e => e⟩ (.refl _) ⟨_, rfl, fun y h => hy y (List.mem_cons_of_mem _ h), rfl⟩
  · intro y hy
    obtain ⟨c, hc, rfl⟩ := List.mem_map.mp hy
    exact ⟨c, hs c hc, rfl⟩
theorem is_name_ok {K : Nat} {z : List Nat} {h : DH} {q : DQ} {x : DX} (hK : 2 ≤ K) (hz : NameW z) (k : q (.bl true) h) : (callD K).is_name [.str z] h q x := by
  obtain ⟨jj, rfl⟩ := Nat.exists_eq_add_of_le' hK
  rw [cd_is_name]; simp only [tb_is_name, body, dstart, dSeq, dIf, dAsg, dRet, dRetN, dNext, dDrop, dTest, dAnd, dOr, dNot, dAndV, dOrV, dNotV, dIfE, dOp, dUn, dC, dVar_e, dNil, dCons, dTup, dLst, dCall, dM1, dL1_e, dSl, oNo, oSo, gSet, gUn, gsCons, gsNil, dStI_e, dYes, ex_eq, ex_eq1, ex_bl, ex_str, ex_int, ex_ref, ex_tup, ex_cons, ex_lst1, ex_ins1, ex_ds, dFld_e, dStF_e, dMeth_e, split_1, qin_str, qnin_str, append_, add_ii, add_ss, add_tt, sub_ii, mul_ii, mul_si, div_ii, mod_ii, pow_ii, lt_ii, le_ii, gt_ii, ge_ii, neg_i, eq_ii, eq_ss, ne_ii, ne_ss, qix_tup, qix_cl, qix_str, at0, at1, at2, at3, qlen_tup, qlen_cl, qlen_str, toI_i, toI_b, toI_s, toS_i, toS_s, qsl_tup, qsl_cl, qsl_str, List.map_cons, List.map_nil, List.length_cons, List.length_nil, List.replicate, List.cons_append, List.nil_append, List.getElem?_cons_zero, List.getElem?_cons_succ, List.set_cons_zero, List.set_cons_succ, true_and, and_true, Nat.reduceAdd, Nat.reduceSub, decide_eq_true_eq]
  refine made_of_ok (by omega) hz.ne (fun c hc => mem_LT.mpr (hz.lets c hc)) ?_
  have hl := hz.le
  simp only [body, dstart, dSeq, dIf, dAsg, dRet, dRetN, dNext, dDrop, dTest, dAnd, dOr, dNot, dAndV, dOrV, dNotV, dIfE, dOp, dUn, dC, dVar_e, dNil, dCons, dTup, dLst, dCall, dM1, dL1_e, dSl, oNo, oSo, gSet, gUn, gsCons, gsNil, dStI_e, dYes, ex_eq, ex_eq1, ex_bl, ex_str, ex_int, ex_ref, ex_tup, ex_cons, ex_lst1, ex_ins1, ex_ds, dFld_e, dStF_e, dMeth_e, split_1, qin_str, qnin_str, append_, add_ii, add_ss, add_tt, sub_ii, mul_ii, mul_si, div_ii, mod_ii, pow_ii, lt_ii, le_ii, gt_ii, ge_ii, neg_i, eq_ii, eq_ss, ne_ii, ne_ss, qix_tup, qix_cl, qix_str, at0, at1, at2, at3, qlen_tup, qlen_cl, qlen_str, toI_i, toI_b, toI_s, toS_i, toS_s, qsl_tup, qsl_cl, qsl_str, List.map_cons, List.map_nil, List.length_cons, List.length_nil, List.replicate, List.cons_append, List.nil_append, List.getElem?_cons_zero, List.getElem?_cons_succ, List.set_cons_zero, List.set_cons_succ, true_and, and_true, Nat.reduceAdd, Nat.reduceSub, decide_eq_true_eq, if_true]
  refine ⟨by unfold sizeLine; omega, ?_⟩
  unfold c_LONGEST
  simp only [body, dstart, dSeq, dIf, dAsg, dRet, dRetN, dNext, dDrop, dTest, dAnd, dOr, dNot, dAndV, dOrV, dNotV, dIfE, dOp, dUn, dC, dVar_e, dNil, dCons, dTup, dLst, dCall, dM1, dL1_e, dSl, oNo, oSo, gSet, gUn, gsCons, gsNil, dStI_e, dYes, ex_eq, ex_eq1, ex_bl, ex_str, ex_int, ex_ref, ex_tup, ex_cons, ex_lst1, ex_ins1, ex_ds, dFld_e, dStF_e, dMeth_e, split_1, qin_str, qnin_str, append_, add_ii, add_ss, add_tt, sub_ii, mul_ii, mul_si, div_ii, mod_ii, pow_ii, lt_ii, le_ii, gt_ii, ge_ii, neg_i, eq_ii, eq_ss, ne_ii, ne_ss, qix_tup, qix_cl, qix_str, at0, at1, at2, at3, qlen_tup, qlen_cl, qlen_str, toI_i, toI_b, toI_s, toS_i, toS_s, qsl_tup, qsl_cl, qsl_str, List.map_cons, List.map_nil, List.length_cons, List.length_nil, List.replicate, List.cons_append, List.nil_append, List.getElem?_cons_zero, List.getElem?_cons_succ, List.set_cons_zero, List.set_cons_succ, true_and, and_true, Nat.reduceAdd, Nat.reduceSub, decide_eq_true_eq]
  rw [if_pos (show (z.length : Int) ≤ 8 by omega)]
  rw [show c_KEPT = .tup (KL.map .str) from rfl, nin_tupS, show decide (z ∈ KL) = false from decide_eq_false hz.nk]
  exact wkq0 k
theorem numL_digit {n c : Nat} (h : c ∈ TL.numL n) : c ∈ ([48, 49, 50, 51, 52, 53, 54, 55, 56, 57] : List Nat) := by
  have h1 : ¬ (c < 48 ∨ 57 < c) := fun e => TL.numL_free e h
  simp only [List.mem_cons, List.not_mem_nil, or_false]
  omega
theorem numL_first : ∀ n : Nat, n ≠ 0 → ∃ c r, TL.numL n = c :: r ∧ c ≠ 48
  | n, h0 => by
    by_cases h : n < 10
    · exact ⟨48 + n, [], TL.numL_lt h, by omega⟩
    · obtain ⟨c, r, e, hc⟩ := numL_first (n / 10) (by omega)
      exact ⟨c, r ++ [48 + n % 10], by rw [TL.numL_step (by omega), e]; rfl, hc⟩
  termination_by n => n
  decreasing_by omega
theorem is_number_ok {K : Nat} {n : Nat} {h : DH} {q : DQ} {x : DX} (hK : 2 ≤ K) (hn : n < 10 ^ 18) (k : q (.bl true) h) : (callD K).is_number [.str (TL.numL n)] h q x := by
  obtain ⟨jj, rfl⟩ := Nat.exists_eq_add_of_le' hK
  rw [cd_is_number]; simp only [tb_is_number, c_FIGURES, c_MOST_FIGURES_words, body, dstart, dSeq, dIf, dAsg, dRet, dRetN, dNext, dDrop, dTest, dAnd, dOr, dNot, dAndV, dOrV, dNotV, dIfE, dOp, dUn, dC, dVar_e, dNil, dCons, dTup, dLst, dCall, dM1, dL1_e, dSl, oNo, oSo, gSet, gUn, gsCons, gsNil, dStI_e, dYes, ex_eq, ex_eq1, ex_bl, ex_str, ex_int, ex_ref, ex_tup, ex_cons, ex_lst1, ex_ins1, ex_ds, dFld_e, dStF_e, dMeth_e, split_1, qin_str, qnin_str, append_, add_ii, add_ss, add_tt, sub_ii, mul_ii, mul_si, div_ii, mod_ii, pow_ii, lt_ii, le_ii, gt_ii, ge_ii, neg_i, eq_ii, eq_ss, ne_ii, ne_ss, qix_tup, qix_cl, qix_str, at0, at1, at2, at3, qlen_tup, qlen_cl, qlen_str, toI_i, toI_b, toI_s, toS_i, toS_s, qsl_tup, qsl_cl, qsl_str, List.map_cons, List.map_nil, List.length_cons, List.length_nil, List.replicate, List.cons_append, List.nil_append, List.getElem?_cons_zero, List.getElem?_cons_succ, List.set_cons_zero, List.set_cons_succ, true_and, and_true, Nat.reduceAdd, Nat.reduceSub, decide_eq_true_eq]
  have hl := TL.numL_len (k := 18) (by decide) hn
  refine made_of_ok (by omega) (TL.numL_ne n) (fun c hc => numL_digit hc) ?_
  simp only [body, dstart, dSeq, dIf, dAsg, dRet, dRetN, dNext, dDrop, dTest, dAnd, dOr, dNot, dAndV, dOrV, dNotV, dIfE, dOp, dUn, dC, dVar_e, dNil, dCons, dTup, dLst, dCall, dM1, dL1_e, dSl, oNo, oSo, gSet, gUn, gsCons, gsNil, dStI_e, dYes, ex_eq, ex_eq1, ex_bl, ex_str, ex_int, ex_ref, ex_tup, ex_cons, ex_lst1, ex_ins1, ex_ds, dFld_e, dStF_e, dMeth_e, split_1, qin_str, qnin_str, append_, add_ii, add_ss, add_tt, sub_ii, mul_ii, mul_si, div_ii, mod_ii, pow_ii, lt_ii, le_ii, gt_ii, ge_ii, neg_i, eq_ii, eq_ss, ne_ii, ne_ss, qix_tup, qix_cl, qix_str, at0, at1, at2, at3, qlen_tup, qlen_cl, qlen_str, toI_i, toI_b, toI_s, toS_i, toS_s, qsl_tup, qsl_cl, qsl_str, List.map_cons, List.map_nil, List.length_cons, List.length_nil, List.replicate, List.cons_append, List.nil_append, List.getElem?_cons_zero, List.getElem?_cons_succ, List.set_cons_zero, List.set_cons_succ, true_and, and_true, Nat.reduceAdd, Nat.reduceSub, decide_eq_true_eq, Bool.not_true, Bool.false_eq_true, if_false]
  refine ⟨by unfold sizeLine; omega, ?_⟩
  rw [if_neg (show ¬ (18 : Int) < (TL.numL n).length by omega)]
  by_cases h0 : n = 0
  · subst h0
    rw [if_pos (show TL.numL 0 = [48] from TL.numL_lt (by decide))]
    exact wkq0 k
  · obtain ⟨c, r, e, hc⟩ := numL_first n h0
    have e2 : ¬ TL.numL n = [48] := by rw [e]; intro e3; exact hc (List.cons.inj e3).1
    rw [if_neg e2]
    rw [e] at hl ⊢
    simp only [body, dstart, dSeq, dIf, dAsg, dRet, dRetN, dNext, dDrop, dTest, dAnd, dOr, dNot, dAndV, dOrV, dNotV, dIfE, dOp, dUn, dC, dVar_e, dNil, dCons, dTup, dLst, dCall, dM1, dL1_e, dSl, oNo, oSo, gSet, gUn, gsCons, gsNil, dStI_e, dYes, ex_eq, ex_eq1, ex_bl, ex_str, ex_int, ex_ref, ex_tup, ex_cons, ex_lst1, ex_ins1, ex_ds, dFld_e, dStF_e, dMeth_e, split_1, qin_str, qnin_str, append_, add_ii, add_ss, add_tt, sub_ii, mul_ii, mul_si, div_ii, mod_ii, pow_ii, lt_ii, le_ii, gt_ii, ge_ii, neg_i, eq_ii, eq_ss, ne_ii, ne_ss, qix_tup, qix_cl, qix_str, at0, at1, at2, at3, qlen_tup, qlen_cl, qlen_str, toI_i, toI_b, toI_s, toS_i, toS_s, qsl_tup, qsl_cl, qsl_str, List.map_cons, List.map_nil, List.length_cons, List.length_nil, List.replicate, List.cons_append, List.nil_append, List.getElem?_cons_zero, List.getElem?_cons_succ, List.set_cons_zero, List.set_cons_succ, true_and, and_true, Nat.reduceAdd, Nat.reduceSub, decide_eq_true_eq]
    refine ⟨by simp only [List.length_cons] at hl; unfold sizeLine; omega, ?_⟩
    rw [show decide ([c] = [48]) = false from decide_eq_false (by simpa using hc)]
    exact wkq0 k
theorem int_numL {n : Nat} (hn : n < 10 ^ 18) : PySem.intText? (mkS (TL.numL n)) = some (n : Int) := by
  have := TL.int_num (n := n) (by have := TL.numL_len (k := 18) (by decide) hn; omega)
  rwa [show Str.ofString (toString ((n : Nat) : Int)) = mkS (TL.numL n) from by rw [← TL.tl_num n]; exact (mkS_eq _).symm] at this
/-! ### the lines -/
def EsOk (h : DH) : List D → List (List (List Nat)) → Prop
  | [], [] => True
  | e :: es, ws :: r => (∃ n p, e = .tup [.int n, .ref p] ∧ h p = some (.lst (ws.map .str))) ∧ EsOk h es r
  | _, _ => False
theorem EsOk.imp {h h' : DH} (hh : ∀ p ds, h p = some (.lst ds) → h' p = some (.lst ds)) : ∀ {es : List D} {r : List (List (List Nat))}, EsOk h es r → EsOk h' es r
  | [], [], _ => trivial
  | [], _ :: _, h => h.elim
  | _ :: _, [], h => h.elim
  | _ :: _, _ :: _, ⟨⟨n, p, e, o⟩, b⟩ => ⟨⟨n, p, e, hh _ _ o⟩, b.imp hh⟩
theorem EsOk.at {h : DH} : ∀ {es : List D} {r : List (List (List Nat))} {j : Nat} {ws : List (List Nat)}, EsOk h es r → r[j]? = some ws → ∃ n p, es[j]? = some (.tup [.int n, .ref p]) ∧ h p = some (.lst (ws.map .str))
  | [], [], _, _, _, e => by cases e
  | [], _ :: _, _, _, h, _ => h.elim
  | _ :: _, [], _, _, h, _ => h.elim
  | _ :: _, _ :: _, 0, _, ⟨⟨n, p, e, o⟩, _⟩, e2 => by cases e2; exact ⟨n, p, by rw [e]; rfl, o⟩
  | _ :: _, _ :: _, j + 1, _, ⟨_, b⟩, e2 => b.at (j := j) e2
theorem EsOk.len {h : DH} : ∀ {es : List D} {r : List (List (List Nat))}, EsOk h es r → es.length = r.length
  | [], [], _ => rfl
  | [], _ :: _, h => h.elim
  | _ :: _, [], h => h.elim
  | _ :: _, _ :: _, ⟨_, b⟩ => by simp [b.len]
theorem EsOk.snoc {h : DH} {n : Int} {p : Addr} {ws : List (List Nat)} (o : h p = some (.lst (ws.map .str))) : ∀ {es : List D} {r : List (List (List Nat))}, EsOk h es r → EsOk h (es ++ [.tup [.int n, .ref p]]) (r ++ [ws])
  | [], [], _ => ⟨⟨n, p, rfl, o⟩, trivial⟩
  | [], _ :: _, h => h.elim
  | _ :: _, [], h => h.elim
  | _ :: _, _ :: _, ⟨a, b⟩ => ⟨a, b.snoc o⟩
/-- the reader L at line `at_` -/
structure St (h : DH) (L R : Addr) (e : Int) (es : List D) (wss : List (List (List Nat))) (at_ : Nat) : Prop where
  ins : h L = some (.ins 2 [.ref R, .int e, .int at_])
  lst : h R = some (.lst es)
  oks : EsOk h es wss
theorem St.le {h h' : DH} {L R : Addr} {e : Int} {es : List D} {wss : List (List (List Nat))} {at_ : Nat} (s : St h L R e es wss at_) (l : Le h h') : St h' L R e es wss at_ :=
  ⟨l _ _ s.ins, l _ _ s.lst, s.oks.imp fun p ds => l _ _⟩
abbrev hpP (h : DH) (L R : Addr) (e : Int) (at_ : Nat) : DH := dup h L (.ins 2 [.ref R, .int e, .int at_])
theorem St.go {h : DH} {L R : Addr} {e : Int} {es : List D} {wss : List (List (List Nat))} {at_ : Nat} (s : St h L R e es wss at_) (a : Nat) : St (hpP h L R e a) L R e es wss a := by
  have ne : ∀ p ds, h p = some (.lst ds) → p ≠ L := fun p ds o e => by subst e; rw [s.ins] at o; cases o
  exact ⟨dup_same, by rw [hpP, dup_ne (ne _ _ s.lst)]; exact s.lst, s.oks.imp fun p ds o => by rw [hpP, dup_ne (ne _ _ o)]; exact o⟩
theorem need_ok {K : Nat} {L : Addr} {h : DH} {q : DQ} {x : DX} (hK : 1 ≤ K) (k : q .non h) : (callD K).Lines_need [.ref L, .bl true] h q x := by
  obtain ⟨jj, rfl⟩ := Nat.exists_eq_add_of_le' hK
  rw [cd_Lines_need]; simp only [tb_Lines_need, body, dstart, dSeq, dIf, dAsg, dRet, dRetN, dNext, dDrop, dTest, dAnd, dOr, dNot, dAndV, dOrV, dNotV, dIfE, dOp, dUn, dC, dVar_e, dNil, dCons, dTup, dLst, dCall, dM1, dL1_e, dSl, oNo, oSo, gSet, gUn, gsCons, gsNil, dStI_e, dYes, ex_eq, ex_eq1, ex_bl, ex_str, ex_int, ex_ref, ex_tup, ex_cons, ex_lst1, ex_ins1, ex_ds, dFld_e, dStF_e, dMeth_e, split_1, qin_str, qnin_str, append_, add_ii, add_ss, add_tt, sub_ii, mul_ii, mul_si, div_ii, mod_ii, pow_ii, lt_ii, le_ii, gt_ii, ge_ii, neg_i, eq_ii, eq_ss, ne_ii, ne_ss, qix_tup, qix_cl, qix_str, at0, at1, at2, at3, qlen_tup, qlen_cl, qlen_str, toI_i, toI_b, toI_s, toS_i, toS_s, qsl_tup, qsl_cl, qsl_str, List.map_cons, List.map_nil, List.length_cons, List.length_nil, List.replicate, List.cons_append, List.nil_append, List.getElem?_cons_zero, List.getElem?_cons_succ, List.set_cons_zero, List.set_cons_succ, true_and, and_true, Nat.reduceAdd, Nat.reduceSub, decide_eq_true_eq, Bool.not_true, Bool.false_eq_true, if_false]
  exact wkq0 k
theorem here_ok {K : Nat} {L R : Addr} {e : Int} {es : List D} {wss : List (List (List Nat))} {at_ : Nat} {ws : List (List Nat)} {h : DH} {q : DQ} {x : DX} (hK : 1 ≤ K) (s : St h L R e es wss at_) (ea : wss[at_]? = some ws)
    (k : ∀ p, h p = some (.lst (ws.map .str)) → q (.ref p) h) : (callD K).Lines_here [.ref L] h q x := by
  obtain ⟨jj, rfl⟩ := Nat.exists_eq_add_of_le' hK
  obtain ⟨n, p, e1, e2⟩ := s.oks.at ea
  have hl : at_ < es.length := (List.getElem?_eq_some_iff.mp e1).1
  rw [cd_Lines_here]; simp only [tb_Lines_here, body, dstart, dSeq, dIf, dAsg, dRet, dRetN, dNext, dDrop, dTest, dAnd, dOr, dNot, dAndV, dOrV, dNotV, dIfE, dOp, dUn, dC, dVar_e, dNil, dCons, dTup, dLst, dCall, dM1, dL1_e, dSl, oNo, oSo, gSet, gUn, gsCons, gsNil, dStI_e, dYes, ex_eq, ex_eq1, ex_bl, ex_str, ex_int, ex_ref, ex_tup, ex_cons, ex_lst1, ex_ins1, ex_ds, dFld_e, dStF_e, dMeth_e, split_1, qin_str, qnin_str, append_, add_ii, add_ss, add_tt, sub_ii, mul_ii, mul_si, div_ii, mod_ii, pow_ii, lt_ii, le_ii, gt_ii, ge_ii, neg_i, eq_ii, eq_ss, ne_ii, ne_ss, qix_tup, qix_cl, qix_str, at0, at1, at2, at3, qlen_tup, qlen_cl, qlen_str, toI_i, toI_b, toI_s, toS_i, toS_s, qsl_tup, qsl_cl, qsl_str, List.map_cons, List.map_nil, List.length_cons, List.length_nil, List.replicate, List.cons_append, List.nil_append, List.getElem?_cons_zero, List.getElem?_cons_succ, List.set_cons_zero, List.set_cons_succ, true_and, and_true, Nat.reduceAdd, Nat.reduceSub, decide_eq_true_eq, fld_ s.ins (i := 2) rfl, fld_ s.ins (i := 0) rfl, qlen_ref s.lst, qix_ref s.lst]
  rw [if_neg (show ¬ (at_ : Int) = es.length by omega)]
  refine ⟨_, atI_nat e1, ?_⟩
  simp only [body, dstart, dSeq, dIf, dAsg, dRet, dRetN, dNext, dDrop, dTest, dAnd, dOr, dNot, dAndV, dOrV, dNotV, dIfE, dOp, dUn, dC, dVar_e, dNil, dCons, dTup, dLst, dCall, dM1, dL1_e, dSl, oNo, oSo, gSet, gUn, gsCons, gsNil, dStI_e, dYes, ex_eq, ex_eq1, ex_bl, ex_str, ex_int, ex_ref, ex_tup, ex_cons, ex_lst1, ex_ins1, ex_ds, dFld_e, dStF_e, dMeth_e, split_1, qin_str, qnin_str, append_, add_ii, add_ss, add_tt, sub_ii, mul_ii, mul_si, div_ii, mod_ii, pow_ii, lt_ii, le_ii, gt_ii, ge_ii, neg_i, eq_ii, eq_ss, ne_ii, ne_ss, qix_tup, qix_cl, qix_str, at0, at1, at2, at3, qlen_tup, qlen_cl, qlen_str, toI_i, toI_b, toI_s, toS_i, toS_s, qsl_tup, qsl_cl, qsl_str, List.map_cons, List.map_nil, List.length_cons, List.length_nil, List.replicate, List.cons_append, List.nil_append, List.getElem?_cons_zero, List.getElem?_cons_succ, List.set_cons_zero, List.set_cons_succ, true_and, and_true, Nat.reduceAdd, Nat.reduceSub, decide_eq_true_eq]
  exact wkq0 (k p e2)
end k60

set_option Elab.async false
set_option linter.all false
set_option maxRecDepth 100000
set_option maxHeartbeats 1000000
namespace k60
open PySem PySem.Spec PyProof.Rows L2 ML
theorem comp_int {chk : DH → Prop} {s : DS} (hs : 2 < s.length) {q : List D → DH → Prop} {h : DH} (hc : chk h) : ∀ (xs : List Nat) (acc : List D), (∀ a ∈ xs, a < 10 ^ 18) → acc.length + xs.length < sizeLine → q (acc ++ nts xs) h →
    compD chk (gSet 2) dYes (dUn dToInt (dVar 2)) s q ((xs.map TL.numL).map .str) acc h
  | [], acc, _, _, z => ⟨hc, by rwa [show nts [] = ([] : List D) from rfl, List.append_nil] at z⟩
  | a :: xs, acc, ha, hl, z => by
    have a1 := ha a (List.mem_cons_self ..)
    have al := TL.numL_len (k := 18) (by decide) a1
    refine ⟨hc, ?_⟩
    have e1 : (s.set 2 (some (.str (TL.numL a))))[2]? = some (some (.str (TL.numL a))) := by rw [List.getElem?_set_self hs]
    simp only [gSet, dYes, if_true, dUn, dVar_e, e1, ex_eq, toI_s]
    simp only [List.length_cons] at hl
    refine ⟨a, int_numL a1, by omega, by omega, h, .refl _, comp_int hs hc xs _ (fun a h => ha a (List.mem_cons_of_mem _ h)) (by simp; omega) ?_⟩
    rw [List.append_assoc]; exact z
theorem rn_ok {K : Nat} {L pw : Addr} {fs : List D} {xs : List Nat} {h : DH} {q : DQ} {x : DX} (hK : 3 ≤ K) (hL : h L = some (.ins 2 fs)) (hp : h pw = some (.lst ((xs.map TL.numL).map .str))) (hx : ∀ a ∈ xs, a < 10 ^ 18) (hl : xs.length ≤ 10)
    (k : q (.tup (nts xs)) h) : (callD K).Lines_read_numbers [.ref L, .ref pw] h q x := by
  obtain ⟨jj, rfl⟩ : ∃ j, K = j + 1 := ⟨K - 1, by omega⟩
  rw [cd_Lines_read_numbers]; simp only [tb_Lines_read_numbers, dFor, iAny, body, dstart, dSeq, dIf, dAsg, dRet, dRetN, dNext, dDrop, dTest, dAnd, dOr, dNot, dAndV, dOrV, dNotV, dIfE, dOp, dUn, dC, dVar_e, dNil, dCons, dTup, dLst, dCall, dM1, dL1_e, dSl, oNo, oSo, gSet, gUn, gsCons, gsNil, dStI_e, dYes, ex_eq, ex_eq1, ex_bl, ex_str, ex_int, ex_ref, ex_tup, ex_cons, ex_lst1, ex_ins1, ex_ds, dFld_e, dStF_e, dMeth_e, split_1, qin_str, qnin_str, append_, add_ii, add_ss, add_tt, sub_ii, mul_ii, mul_si, div_ii, mod_ii, pow_ii, lt_ii, le_ii, gt_ii, ge_ii, neg_i, eq_ii, eq_ss, ne_ii, ne_ss, qix_tup, qix_cl, qix_str, at0, at1, at2, at3, qlen_tup, qlen_cl, qlen_str, toI_i, toI_b, toI_s, toS_i, toS_s, qsl_tup, qsl_cl, qsl_str, List.map_cons, List.map_nil, List.length_cons, List.length_nil, List.replicate, List.cons_append, List.nil_append, List.getElem?_cons_zero, List.getElem?_cons_succ, List.set_cons_zero, List.set_cons_succ, true_and, and_true, Nat.reduceAdd, Nat.reduceSub, decide_eq_true_eq]
  refine ⟨_, hp, wk0 (for_ind (fun rem s hh => ∃ v2, hh = h ∧ (∀ y ∈ rem, ∃ n : Nat, n < 10 ^ 18 ∧ y = .str (TL.numL n)) ∧ s = [some (.ref L), some (.ref pw), v2]) ?_ ?_ _ _ _ ⟨_, rfl, ?_, rfl⟩)⟩
  · rintro s hh ⟨v2, rfl, _, rfl⟩
    refine ⟨hp, ?_⟩
    simp only [dLc, iAny, body, dstart, dSeq, dIf, dAsg, dRet, dRetN, dNext, dDrop, dTest, dAnd, dOr, dNot, dAndV, dOrV, dNotV, dIfE, dOp, dUn, dC, dVar_e, dNil, dCons, dTup, dLst, dCall, dM1, dL1_e, dSl, oNo, oSo, gSet, gUn, gsCons, gsNil, dStI_e, dYes, ex_eq, ex_eq1, ex_bl, ex_str, ex_int, ex_ref, ex_tup, ex_cons, ex_lst1, ex_ins1, ex_ds, dFld_e, dStF_e, dMeth_e, split_1, qin_str, qnin_str, append_, add_ii, add_ss, add_tt, sub_ii, mul_ii, mul_si, div_ii, mod_ii, pow_ii, lt_ii, le_ii, gt_ii, ge_ii, neg_i, eq_ii, eq_ss, ne_ii, ne_ss, qix_tup, qix_cl, qix_str, at0, at1, at2, at3, qlen_tup, qlen_cl, qlen_str, toI_i, toI_b, toI_s, toS_i, toS_s, qsl_tup, qsl_cl, qsl_str, List.map_cons, List.map_nil, List.length_cons, List.length_nil, List.replicate, List.cons_append, List.nil_append, List.getElem?_cons_zero, List.getElem?_cons_succ, List.set_cons_zero, List.set_cons_succ, true_and, and_true, Nat.reduceAdd, Nat.reduceSub, decide_eq_true_eq]
    refine ⟨_, hp, hh, .refl _, comp_int (by simp [dwipe]) hp xs [] hx (by simp; unfold sizeLine; omega) fun p hpn => ?_⟩
    rw [List.nil_append, qtup_ref dup_same]
    exact wkq (le_ne hpn) k
  · rintro y rem s hh ⟨v2, rfl, hy, rfl⟩
    obtain ⟨n, hn, rfl⟩ := hy y (List.mem_cons_self ..)
    refine ⟨hp, fun F hF => ?_⟩
    simp only [gSet, tb_Lines_read_numbers_1, body, dstart, dSeq, dIf, dAsg, dRet, dRetN, dNext, dDrop, dTest, dAnd, dOr, dNot, dAndV, dOrV, dNotV, dIfE, dOp, dUn, dC, dVar_e, dNil, dCons, dTup, dLst, dCall, dM1, dL1_e, dSl, oNo, oSo, gSet, gUn, gsCons, gsNil, dStI_e, dYes, ex_eq, ex_eq1, ex_bl, ex_str, ex_int, ex_ref, ex_tup, ex_cons, ex_lst1, ex_ins1, ex_ds, dFld_e, dStF_e, dMeth_e, split_1, qin_str, qnin_str, append_, add_ii, add_ss, add_tt, sub_ii, mul_ii, mul_si, div_ii, mod_ii, pow_ii, lt_ii, le_ii, gt_ii, ge_ii, neg_i, eq_ii, eq_ss, ne_ii, ne_ss, qix_tup, qix_cl, qix_str, at0, at1, at2, at3, qlen_tup, qlen_cl, qlen_str, toI_i, toI_b, toI_s, toS_i, toS_s, qsl_tup, qsl_cl, qsl_str, List.map_cons, List.map_nil, List.length_cons, List.length_nil, List.replicate, List.cons_append, List.nil_append, List.getElem?_cons_zero, List.getElem?_cons_succ, List.set_cons_zero, List.set_cons_succ, true_and, and_true, Nat.reduceAdd, Nat.reduceSub, decide_eq_true_eq, meth_ hL]
    refine is_number_ok (by omega) hn (need_ok (by omega) ?_)
    exact hF _ _ _ _ ⟨rfl, fun _ _ e => e⟩ (.refl _) ⟨_, rfl, fun y h => hy y (List.mem_cons_of_mem _ h), rfl⟩
  · intro y hy
    obtain ⟨z, hz, rfl⟩ := List.mem_map.mp hy
    obtain ⟨n, hn, rfl⟩ := List.mem_map.mp hz
    exact ⟨n, hx n hn, rfl⟩
theorem put_at {a b c d : D} : ML.putAt [a, b, c] 2 d = [a, b, d] := rfl
theorem head_ok {K : Nat} {L R : Addr} {e : Int} {es : List D} {wss : List (List (List Nat))} {at_ : Nat} {nm : List Nat} {args : List Nat} {h : DH} {q : DQ} {x : DX} (hK : 4 ≤ K) (s : St h L R e es wss at_) (ea : wss[at_]? = some (wCHAIN :: nm :: args.map TL.numL)) (hn : NameW nm) (ha : Nums args)
    (k : q (.tup [.str nm, .tup (nts args)]) (hpP h L R e (at_ + 1))) : (callD K).head_of [.ref L] h q x := by
  obtain ⟨jj, rfl⟩ : ∃ j, K = j + 1 := ⟨K - 1, by omega⟩
  rw [cd_head_of]; simp only [tb_head_of, tb_head_of_3, tb_head_of_2, tb_head_of_1, body, dstart, dSeq, dIf, dAsg, dRet, dRetN, dNext, dDrop, dTest, dAnd, dOr, dNot, dAndV, dOrV, dNotV, dIfE, dOp, dUn, dC, dVar_e, dNil, dCons, dTup, dLst, dCall, dM1, dL1_e, dSl, oNo, oSo, gSet, gUn, gsCons, gsNil, dStI_e, dYes, ex_eq, ex_eq1, ex_bl, ex_str, ex_int, ex_ref, ex_tup, ex_cons, ex_lst1, ex_ins1, ex_ds, dFld_e, dStF_e, dMeth_e, split_1, qin_str, qnin_str, append_, add_ii, add_ss, add_tt, sub_ii, mul_ii, mul_si, div_ii, mod_ii, pow_ii, lt_ii, le_ii, gt_ii, ge_ii, neg_i, eq_ii, eq_ss, ne_ii, ne_ss, qix_tup, qix_cl, qix_str, at0, at1, at2, at3, qlen_tup, qlen_cl, qlen_str, toI_i, toI_b, toI_s, toS_i, toS_s, qsl_tup, qsl_cl, qsl_str, List.map_cons, List.map_nil, List.length_cons, List.length_nil, List.replicate, List.cons_append, List.nil_append, List.getElem?_cons_zero, List.getElem?_cons_succ, List.set_cons_zero, List.set_cons_succ, true_and, and_true, Nat.reduceAdd, Nat.reduceSub, decide_eq_true_eq, meth_ s.ins]
  have al := ha.1
  refine here_ok (by omega) s ea fun p hp => ?_
  simp only [List.map_cons] at hp
  simp only [body, dstart, dSeq, dIf, dAsg, dRet, dRetN, dNext, dDrop, dTest, dAnd, dOr, dNot, dAndV, dOrV, dNotV, dIfE, dOp, dUn, dC, dVar_e, dNil, dCons, dTup, dLst, dCall, dM1, dL1_e, dSl, oNo, oSo, gSet, gUn, gsCons, gsNil, dStI_e, dYes, ex_eq, ex_eq1, ex_bl, ex_str, ex_int, ex_ref, ex_tup, ex_cons, ex_lst1, ex_ins1, ex_ds, dFld_e, dStF_e, dMeth_e, split_1, qin_str, qnin_str, append_, add_ii, add_ss, add_tt, sub_ii, mul_ii, mul_si, div_ii, mod_ii, pow_ii, lt_ii, le_ii, gt_ii, ge_ii, neg_i, eq_ii, eq_ss, ne_ii, ne_ss, qix_tup, qix_cl, qix_str, at0, at1, at2, at3, qlen_tup, qlen_cl, qlen_str, toI_i, toI_b, toI_s, toS_i, toS_s, qsl_tup, qsl_cl, qsl_str, List.map_cons, List.map_nil, List.length_cons, List.length_nil, List.replicate, List.cons_append, List.nil_append, List.getElem?_cons_zero, List.getElem?_cons_succ, List.set_cons_zero, List.set_cons_succ, true_and, and_true, Nat.reduceAdd, Nat.reduceSub, decide_eq_true_eq, meth_ s.ins, qix_ref hp, qlen_ref hp]
  rw [if_pos (show wCHAIN = [99, 104, 97, 105, 110] from rfl)]
  rw [if_pos (show (1 : Int) < ((((args.map TL.numL).map D.str).length + 1 + 1 : Nat) : Int) by simp; omega)]
  refine is_name_ok (by omega) hn (need_ok (by omega) ?_)
  simp only [body, dstart, dSeq, dIf, dAsg, dRet, dRetN, dNext, dDrop, dTest, dAnd, dOr, dNot, dAndV, dOrV, dNotV, dIfE, dOp, dUn, dC, dVar_e, dNil, dCons, dTup, dLst, dCall, dM1, dL1_e, dSl, oNo, oSo, gSet, gUn, gsCons, gsNil, dStI_e, dYes, ex_eq, ex_eq1, ex_bl, ex_str, ex_int, ex_ref, ex_tup, ex_cons, ex_lst1, ex_ins1, ex_ds, dFld_e, dStF_e, dMeth_e, split_1, qin_str, qnin_str, append_, add_ii, add_ss, add_tt, sub_ii, mul_ii, mul_si, div_ii, mod_ii, pow_ii, lt_ii, le_ii, gt_ii, ge_ii, neg_i, eq_ii, eq_ss, ne_ii, ne_ss, qix_tup, qix_cl, qix_str, at0, at1, at2, at3, qlen_tup, qlen_cl, qlen_str, toI_i, toI_b, toI_s, toS_i, toS_s, qsl_tup, qsl_cl, qsl_str, List.map_cons, List.map_nil, List.length_cons, List.length_nil, List.replicate, List.cons_append, List.nil_append, List.getElem?_cons_zero, List.getElem?_cons_succ, List.set_cons_zero, List.set_cons_succ, true_and, and_true, Nat.reduceAdd, Nat.reduceSub, decide_eq_true_eq, qix_ref hp, meth_ s.ins, qsl_ref hp]
  refine fun p2 hp2 => ?_
  have n2 : p ≠ p2 := free_ne hp hp2
  have nL : L ≠ p2 := free_ne s.ins hp2
  have ec : cutD (.str wCHAIN :: .str nm :: (args.map TL.numL).map D.str) (some 2) none = (args.map TL.numL).map .str := by
    rw [show (some (2 : Int)) = some ((2 : Nat) : Int) from rfl, cut_drop]; rfl
  rw [ec]
  refine rn_ok (fs := [.ref R, .int e, .int at_]) (by omega) (by rw [dup_ne nL]; exact s.ins) dup_same ha.2 (by omega) ?_
  refine ⟨by decide, ?_⟩
  rw [fld_ (fs := [.ref R, .int e, .int at_]) (d := .int at_) (by rw [dup_ne nL]; exact s.ins) rfl]
  simp only [body, dstart, dSeq, dIf, dAsg, dRet, dRetN, dNext, dDrop, dTest, dAnd, dOr, dNot, dAndV, dOrV, dNotV, dIfE, dOp, dUn, dC, dVar_e, dNil, dCons, dTup, dLst, dCall, dM1, dL1_e, dSl, oNo, oSo, gSet, gUn, gsCons, gsNil, dStI_e, dYes, ex_eq, ex_eq1, ex_bl, ex_str, ex_int, ex_ref, ex_tup, ex_cons, ex_lst1, ex_ins1, ex_ds, dFld_e, dStF_e, dMeth_e, split_1, qin_str, qnin_str, append_, add_ii, add_ss, add_tt, sub_ii, mul_ii, mul_si, div_ii, mod_ii, pow_ii, lt_ii, le_ii, gt_ii, ge_ii, neg_i, eq_ii, eq_ss, ne_ii, ne_ss, qix_tup, qix_cl, qix_str, at0, at1, at2, at3, qlen_tup, qlen_cl, qlen_str, toI_i, toI_b, toI_s, toS_i, toS_s, qsl_tup, qsl_cl, qsl_str, List.map_cons, List.map_nil, List.length_cons, List.length_nil, List.replicate, List.cons_append, List.nil_append, List.getElem?_cons_zero, List.getElem?_cons_succ, List.set_cons_zero, List.set_cons_succ, true_and, and_true, Nat.reduceAdd, Nat.reduceSub, decide_eq_true_eq]
  rw [stf_ (fs := [.ref R, .int e, .int at_]) (by rw [dup_ne nL]; exact s.ins) (by simp)]
  simp only [body, dstart, dSeq, dIf, dAsg, dRet, dRetN, dNext, dDrop, dTest, dAnd, dOr, dNot, dAndV, dOrV, dNotV, dIfE, dOp, dUn, dC, dVar_e, dNil, dCons, dTup, dLst, dCall, dM1, dL1_e, dSl, oNo, oSo, gSet, gUn, gsCons, gsNil, dStI_e, dYes, ex_eq, ex_eq1, ex_bl, ex_str, ex_int, ex_ref, ex_tup, ex_cons, ex_lst1, ex_ins1, ex_ds, dFld_e, dStF_e, dMeth_e, split_1, qin_str, qnin_str, append_, add_ii, add_ss, add_tt, sub_ii, mul_ii, mul_si, div_ii, mod_ii, pow_ii, lt_ii, le_ii, gt_ii, ge_ii, neg_i, eq_ii, eq_ss, ne_ii, ne_ss, qix_tup, qix_cl, qix_str, at0, at1, at2, at3, qlen_tup, qlen_cl, qlen_str, toI_i, toI_b, toI_s, toS_i, toS_s, qsl_tup, qsl_cl, qsl_str, List.map_cons, List.map_nil, List.length_cons, List.length_nil, List.replicate, List.cons_append, List.nil_append, List.getElem?_cons_zero, List.getElem?_cons_succ, List.set_cons_zero, List.set_cons_succ, true_and, and_true, Nat.reduceAdd, Nat.reduceSub, decide_eq_true_eq]
  refine wkq ?_ k
  intro a o e
  simp only [hpP, dup, put_at] at e hp2 ⊢
  grind
/-- how the text goes on from this row -/
def Here (wss : List (List (List Nat))) (at_ : Nat) (rs : List Row) : Prop := ∃ A B, wss = A ++ (rs.map (·.2) ++ B) ∧ A.length = at_
theorem Here.get {wss : List (List (List Nat))} {at_ : Nat} {r : Row} {rs : List Row} (h : Here wss at_ (r :: rs)) : wss[at_]? = some r.2 := by
  obtain ⟨A, B, rfl, rfl⟩ := h
  simp
theorem Here.left {wss : List (List (List Nat))} {at_ : Nat} {a b : List Row} (h : Here wss at_ (a ++ b)) : Here wss at_ a := by
  obtain ⟨A, B, rfl, rfl⟩ := h
  exact ⟨A, b.map (·.2) ++ B, by simp, rfl⟩
theorem Here.right {wss : List (List (List Nat))} {at_ : Nat} {a b : List Row} (h : Here wss at_ (a ++ b)) : Here wss (at_ + a.length) b := by
  obtain ⟨A, B, rfl, rfl⟩ := h
  exact ⟨A ++ a.map (·.2), B, by simp, by simp⟩
theorem Here.tail {wss : List (List (List Nat))} {at_ : Nat} {r : Row} {b : List Row} (h : Here wss at_ (r :: b)) : Here wss (at_ + 1) b := Here.right (a := [r]) h
def PChainOk (K d : Nat) : Prop := ∀ {L R : Addr} {e : Int} {es : List D} {wss : List (List (List Nat))} {at_ i sz : Nat} {c : D} {rs : List Row} {h : DH} {q : DQ} {x : DX}, St h L R e es wss at_ → Here wss at_ rs → ChF (WhR d) i c rs sz → rs.length ≤ 1000 →
  q c (hpP h L R e (at_ + rs.length : Nat)) → (callD K).chain_of [.ref L] h q x
def PWhatOk (K d : Nat) : Prop := ∀ {L R pw : Addr} {e : Int} {es : List D} {wss : List (List (List Nat))} {at_ i sz : Nat} {w : D} {ws : List (List Nat)} {rs : List Row} {h : DH} {q : DQ} {x : DX}, St h L R e es wss at_ → Here wss (at_ + 1) rs → WhR d i w ws rs sz → rs.length ≤ 1000 →
  h pw = some (.lst (ws.map .str)) → q w (hpP h L R e (at_ + 1 + rs.length : Nat)) → (callD K).what_of [.ref L, .ref pw] h q x
def PStepOk (K d : Nat) : Prop := ∀ {L R : Addr} {e : Int} {es : List D} {wss : List (List (List Nat))} {at_ i sz n : Nat} {w : D} {held : List Nat} {ws : List (List Nat)} {rs : List Row} {h : DH} {q : DQ} {x : DX}, St h L R e es wss at_ →
  Here wss at_ ((i, TL.numL n :: (held.map TL.numL ++ [58] :: ws)) :: rs) → n < 10000 → Nums held → WhR d i w ws rs sz → rs.length ≤ 1000 →
  q (.tup [.int n, .tup (nts held), w]) (hpP h L R e (at_ + 1 + rs.length : Nat)) → (callD K).step_of [.ref L] h q x
theorem sorts_at {z : List Nat} {n : Int} (e : lookI z t_SORTS = some n) {h : DH} {q : DQ} (k : q (.int n) h) : dIxG t_SORTS (.str z) h q := ⟨z, n, rfl, e, k⟩
theorem sorts_in {z : List Nat} {n : Int} (e : lookI z t_SORTS = some n) {h : DH} {q : DQ} (k : q (.bl true) h) : dInG t_SORTS (.str z) h q := ⟨z, rfl, by rw [e]; exact k⟩
theorem p_what {K d : Nat} (hK : 3 ≤ K) (hc : ∀ d', d = d' + 1 → PChainOk K d') : PWhatOk (K + 1) d := by
  intro L R pw e es wss at_ i sz w ws rs h q x s hh hw hl hp k
  have key : ∀ (hd : List Nat) (xs : List Nat) (cnt : Int), ws = hd :: xs.map TL.numL → lookI hd t_SORTS = some cnt → (xs.length : Int) = cnt → xs.length ≤ 2 → (∀ a ∈ xs, a < 10 ^ 18) → (hd = wASK → ∃ a r, xs = a :: r ∧ a < 2) →
      (∀ hh' : DH, Le (hpP h L R e (at_ + 1 : Nat)) hh' → hh' pw = some (.lst (.str hd :: (xs.map TL.numL).map .str)) → tb_what_of_1 (callD K) (fun c fs _ h' => wkX x c fs h') { nx := fun _ h' => wkQ q .non h', rt := wkQ q } [some (.ref L), some (.ref pw), some (.tup (nts xs))] hh') → (callD (K + 1)).what_of [.ref L, .ref pw] h q x := by
    intro hd xs cnt ews el ecnt hx2 hx hask cont
    rw [ews, List.map_cons] at hp
    rw [cd_what_of]; simp only [tb_what_of, tb_what_of_4, tb_what_of_3, body, dstart, dSeq, dIf, dAsg, dRet, dRetN, dNext, dDrop, dTest, dAnd, dOr, dNot, dAndV, dOrV, dNotV, dIfE, dOp, dUn, dC, dVar_e, dNil, dCons, dTup, dLst, dCall, dM1, dL1_e, dSl, oNo, oSo, gSet, gUn, gsCons, gsNil, dStI_e, dYes, ex_eq, ex_eq1, ex_bl, ex_str, ex_int, ex_ref, ex_tup, ex_cons, ex_lst1, ex_ins1, ex_ds, dFld_e, dStF_e, dMeth_e, split_1, qin_str, qnin_str, append_, add_ii, add_ss, add_tt, sub_ii, mul_ii, mul_si, div_ii, mod_ii, pow_ii, lt_ii, le_ii, gt_ii, ge_ii, neg_i, eq_ii, eq_ss, ne_ii, ne_ss, qix_tup, qix_cl, qix_str, at0, at1, at2, at3, qlen_tup, qlen_cl, qlen_str, toI_i, toI_b, toI_s, toS_i, toS_s, qsl_tup, qsl_cl, qsl_str, List.map_cons, List.map_nil, List.length_cons, List.length_nil, List.replicate, List.cons_append, List.nil_append, List.getElem?_cons_zero, List.getElem?_cons_succ, List.set_cons_zero, List.set_cons_succ, true_and, and_true, Nat.reduceAdd, Nat.reduceSub, decide_eq_true_eq, meth_ s.ins, qlen_ref hp, qix_ref hp]
    rw [if_pos (show (0 : Int) < ((((xs.map TL.numL).map D.str).length + 1 : Nat) : Int) by omega)]
    refine sorts_in el ?_
    simp only [body, dstart, dSeq, dIf, dAsg, dRet, dRetN, dNext, dDrop, dTest, dAnd, dOr, dNot, dAndV, dOrV, dNotV, dIfE, dOp, dUn, dC, dVar_e, dNil, dCons, dTup, dLst, dCall, dM1, dL1_e, dSl, oNo, oSo, gSet, gUn, gsCons, gsNil, dStI_e, dYes, ex_eq, ex_eq1, ex_bl, ex_str, ex_int, ex_ref, ex_tup, ex_cons, ex_lst1, ex_ins1, ex_ds, dFld_e, dStF_e, dMeth_e, split_1, qin_str, qnin_str, append_, add_ii, add_ss, add_tt, sub_ii, mul_ii, mul_si, div_ii, mod_ii, pow_ii, lt_ii, le_ii, gt_ii, ge_ii, neg_i, eq_ii, eq_ss, ne_ii, ne_ss, qix_tup, qix_cl, qix_str, at0, at1, at2, at3, qlen_tup, qlen_cl, qlen_str, toI_i, toI_b, toI_s, toS_i, toS_s, qsl_tup, qsl_cl, qsl_str, List.map_cons, List.map_nil, List.length_cons, List.length_nil, List.replicate, List.cons_append, List.nil_append, List.getElem?_cons_zero, List.getElem?_cons_succ, List.set_cons_zero, List.set_cons_succ, true_and, and_true, Nat.reduceAdd, Nat.reduceSub, decide_eq_true_eq, if_true, qlen_ref hp, qix_ref hp]
    refine sorts_at el ?_
    simp only [body, dstart, dSeq, dIf, dAsg, dRet, dRetN, dNext, dDrop, dTest, dAnd, dOr, dNot, dAndV, dOrV, dNotV, dIfE, dOp, dUn, dC, dVar_e, dNil, dCons, dTup, dLst, dCall, dM1, dL1_e, dSl, oNo, oSo, gSet, gUn, gsCons, gsNil, dStI_e, dYes, ex_eq, ex_eq1, ex_bl, ex_str, ex_int, ex_ref, ex_tup, ex_cons, ex_lst1, ex_ins1, ex_ds, dFld_e, dStF_e, dMeth_e, split_1, qin_str, qnin_str, append_, add_ii, add_ss, add_tt, sub_ii, mul_ii, mul_si, div_ii, mod_ii, pow_ii, lt_ii, le_ii, gt_ii, ge_ii, neg_i, eq_ii, eq_ss, ne_ii, ne_ss, qix_tup, qix_cl, qix_str, at0, at1, at2, at3, qlen_tup, qlen_cl, qlen_str, toI_i, toI_b, toI_s, toS_i, toS_s, qsl_tup, qsl_cl, qsl_str, List.map_cons, List.map_nil, List.length_cons, List.length_nil, List.replicate, List.cons_append, List.nil_append, List.getElem?_cons_zero, List.getElem?_cons_succ, List.set_cons_zero, List.set_cons_succ, true_and, and_true, Nat.reduceAdd, Nat.reduceSub, decide_eq_true_eq]
    rw [show decide (((((xs.map TL.numL).map D.str).length + 1 : Nat) : Int) = 1 + cnt) = true from decide_eq_true (by rw [List.length_map, List.length_map]; omega)]
    refine need_ok (by omega) ?_
    simp only [body, dstart, dSeq, dIf, dAsg, dRet, dRetN, dNext, dDrop, dTest, dAnd, dOr, dNot, dAndV, dOrV, dNotV, dIfE, dOp, dUn, dC, dVar_e, dNil, dCons, dTup, dLst, dCall, dM1, dL1_e, dSl, oNo, oSo, gSet, gUn, gsCons, gsNil, dStI_e, dYes, ex_eq, ex_eq1, ex_bl, ex_str, ex_int, ex_ref, ex_tup, ex_cons, ex_lst1, ex_ins1, ex_ds, dFld_e, dStF_e, dMeth_e, split_1, qin_str, qnin_str, append_, add_ii, add_ss, add_tt, sub_ii, mul_ii, mul_si, div_ii, mod_ii, pow_ii, lt_ii, le_ii, gt_ii, ge_ii, neg_i, eq_ii, eq_ss, ne_ii, ne_ss, qix_tup, qix_cl, qix_str, at0, at1, at2, at3, qlen_tup, qlen_cl, qlen_str, toI_i, toI_b, toI_s, toS_i, toS_s, qsl_tup, qsl_cl, qsl_str, List.map_cons, List.map_nil, List.length_cons, List.length_nil, List.replicate, List.cons_append, List.nil_append, List.getElem?_cons_zero, List.getElem?_cons_succ, List.set_cons_zero, List.set_cons_succ, true_and, and_true, Nat.reduceAdd, Nat.reduceSub, decide_eq_true_eq, meth_ s.ins, qsl_ref hp]
    refine fun p2 hp2 => ?_
    have nL : L ≠ p2 := free_ne s.ins hp2
    have nw : pw ≠ p2 := free_ne hp hp2
    have nLw : pw ≠ L := by intro e; subst e; rw [s.ins] at hp; cases hp
    have ec : cutD (.str hd :: (xs.map TL.numL).map D.str) (some 1) none = (xs.map TL.numL).map .str := by
      rw [show (some (1 : Int)) = some ((1 : Nat) : Int) from rfl, cut_drop]; rfl
    rw [ec]
    have eL : dup h p2 (.lst ((xs.map TL.numL).map .str)) L = some (.ins 2 [.ref R, .int e, .int at_]) := by rw [dup_ne nL]; exact s.ins
    have ew : dup h p2 (.lst ((xs.map TL.numL).map .str)) pw = some (.lst (.str hd :: (xs.map TL.numL).map D.str)) := by rw [dup_ne nw]; exact hp
    refine rn_ok hK eL dup_same hx (by omega) ?_
    simp only [body, dstart, dSeq, dIf, dAsg, dRet, dRetN, dNext, dDrop, dTest, dAnd, dOr, dNot, dAndV, dOrV, dNotV, dIfE, dOp, dUn, dC, dVar_e, dNil, dCons, dTup, dLst, dCall, dM1, dL1_e, dSl, oNo, oSo, gSet, gUn, gsCons, gsNil, dStI_e, dYes, ex_eq, ex_eq1, ex_bl, ex_str, ex_int, ex_ref, ex_tup, ex_cons, ex_lst1, ex_ins1, ex_ds, dFld_e, dStF_e, dMeth_e, split_1, qin_str, qnin_str, append_, add_ii, add_ss, add_tt, sub_ii, mul_ii, mul_si, div_ii, mod_ii, pow_ii, lt_ii, le_ii, gt_ii, ge_ii, neg_i, eq_ii, eq_ss, ne_ii, ne_ss, qix_tup, qix_cl, qix_str, at0, at1, at2, at3, qlen_tup, qlen_cl, qlen_str, toI_i, toI_b, toI_s, toS_i, toS_s, qsl_tup, qsl_cl, qsl_str, List.map_cons, List.map_nil, List.length_cons, List.length_nil, List.replicate, List.cons_append, List.nil_append, List.getElem?_cons_zero, List.getElem?_cons_succ, List.set_cons_zero, List.set_cons_succ, true_and, and_true, Nat.reduceAdd, Nat.reduceSub, decide_eq_true_eq, meth_ eL, qix_ref ew]
    have fin : (callD K).Lines_need [D.ref L, D.bl true] (dup h p2 (.lst ((xs.map TL.numL).map .str))) (fun _ h1 =>
        tb_what_of_2 (callD K) (fun c fs _ h' => wkX x c fs h') { nx := fun _ h' => wkQ q .non h', rt := wkQ q } [some (.ref L), some (.ref pw), some (.tup (nts xs))] h1) (fun c fs h' => wkX x c fs h') := by
      refine need_ok (by omega) ?_
      simp only [tb_what_of_2, body, dstart, dSeq, dIf, dAsg, dRet, dRetN, dNext, dDrop, dTest, dAnd, dOr, dNot, dAndV, dOrV, dNotV, dIfE, dOp, dUn, dC, dVar_e, dNil, dCons, dTup, dLst, dCall, dM1, dL1_e, dSl, oNo, oSo, gSet, gUn, gsCons, gsNil, dStI_e, dYes, ex_eq, ex_eq1, ex_bl, ex_str, ex_int, ex_ref, ex_tup, ex_cons, ex_lst1, ex_ins1, ex_ds, dFld_e, dStF_e, dMeth_e, split_1, qin_str, qnin_str, append_, add_ii, add_ss, add_tt, sub_ii, mul_ii, mul_si, div_ii, mod_ii, pow_ii, lt_ii, le_ii, gt_ii, ge_ii, neg_i, eq_ii, eq_ss, ne_ii, ne_ss, qix_tup, qix_cl, qix_str, at0, at1, at2, at3, qlen_tup, qlen_cl, qlen_str, toI_i, toI_b, toI_s, toS_i, toS_s, qsl_tup, qsl_cl, qsl_str, List.map_cons, List.map_nil, List.length_cons, List.length_nil, List.replicate, List.cons_append, List.nil_append, List.getElem?_cons_zero, List.getElem?_cons_succ, List.set_cons_zero, List.set_cons_succ, true_and, and_true, Nat.reduceAdd, Nat.reduceSub, decide_eq_true_eq, fld_ eL (i := 2) rfl, stf_ eL (i := 2) (by simp)]
      refine cont _ ?_ ?_
      · intro a o e
        simp only [hpP, dup, put_at] at e hp2 ⊢
        grind
      · rw [dup_ne nLw]; exact ew
    by_cases ha : hd = [97, 115, 107]
    · obtain ⟨a, r, rfl, ha2⟩ := hask ha
      subst ha
      simp only [decide_true, Bool.not_true, Bool.false_eq_true, if_false, nts, List.map_cons, body, dstart, dSeq, dIf, dAsg, dRet, dRetN, dNext, dDrop, dTest, dAnd, dOr, dNot, dAndV, dOrV, dNotV, dIfE, dOp, dUn, dC, dVar_e, dNil, dCons, dTup, dLst, dCall, dM1, dL1_e, dSl, oNo, oSo, gSet, gUn, gsCons, gsNil, dStI_e, dYes, ex_eq, ex_eq1, ex_bl, ex_str, ex_int, ex_ref, ex_tup, ex_cons, ex_lst1, ex_ins1, ex_ds, dFld_e, dStF_e, dMeth_e, split_1, qin_str, qnin_str, append_, add_ii, add_ss, add_tt, sub_ii, mul_ii, mul_si, div_ii, mod_ii, pow_ii, lt_ii, le_ii, gt_ii, ge_ii, neg_i, eq_ii, eq_ss, ne_ii, ne_ss, qix_tup, qix_cl, qix_str, at0, at1, at2, at3, qlen_tup, qlen_cl, qlen_str, toI_i, toI_b, toI_s, toS_i, toS_s, qsl_tup, qsl_cl, qsl_str, List.map_cons, List.map_nil, List.length_cons, List.length_nil, List.replicate, List.cons_append, List.nil_append, List.getElem?_cons_zero, List.getElem?_cons_succ, List.set_cons_zero, List.set_cons_succ, true_and, and_true, Nat.reduceAdd, Nat.reduceSub, decide_eq_true_eq] at fin ⊢
      rw [show decide ((a : Int) < 2) = true from decide_eq_true (by omega)]
      exact fin
    · rw [show decide (hd = [97, 115, 107]) = false from decide_eq_false ha]
      simp only [Bool.not_false, if_true]
      exact fin
  rcases whr_cases hw with ⟨l, rfl, rfl⟩ | ⟨d', c, rfl, rfl, rfl, hch⟩
  · have leafy : ∀ (hd : List Nat) (xs : List Nat), w = .tup (.str hd :: nts xs) → hd ≠ wCALL → xs.length ≤ 2 → ∀ hh' : DH, Le (hpP h L R e (at_ + 1 : Nat)) hh' → hh' pw = some (.lst (.str hd :: (xs.map TL.numL).map .str)) →
        tb_what_of_1 (callD K) (fun c fs _ h' => wkX x c fs h') { nx := fun _ h' => wkQ q .non h', rt := wkQ q } [some (.ref L), some (.ref pw), some (.tup (nts xs))] hh' := by
      intro hd xs ew hne hx2 hh' le' hp'
      simp only [tb_what_of_1, body, dstart, dSeq, dIf, dAsg, dRet, dRetN, dNext, dDrop, dTest, dAnd, dOr, dNot, dAndV, dOrV, dNotV, dIfE, dOp, dUn, dC, dVar_e, dNil, dCons, dTup, dLst, dCall, dM1, dL1_e, dSl, oNo, oSo, gSet, gUn, gsCons, gsNil, dStI_e, dYes, ex_eq, ex_eq1, ex_bl, ex_str, ex_int, ex_ref, ex_tup, ex_cons, ex_lst1, ex_ins1, ex_ds, dFld_e, dStF_e, dMeth_e, split_1, qin_str, qnin_str, append_, add_ii, add_ss, add_tt, sub_ii, mul_ii, mul_si, div_ii, mod_ii, pow_ii, lt_ii, le_ii, gt_ii, ge_ii, neg_i, eq_ii, eq_ss, ne_ii, ne_ss, qix_tup, qix_cl, qix_str, at0, at1, at2, at3, qlen_tup, qlen_cl, qlen_str, toI_i, toI_b, toI_s, toS_i, toS_s, qsl_tup, qsl_cl, qsl_str, List.map_cons, List.map_nil, List.length_cons, List.length_nil, List.replicate, List.cons_append, List.nil_append, List.getElem?_cons_zero, List.getElem?_cons_succ, List.set_cons_zero, List.set_cons_succ, true_and, and_true, Nat.reduceAdd, Nat.reduceSub, decide_eq_true_eq, qix_ref hp']
      rw [if_neg (show ¬ hd = [99, 97, 108, 108] from hne)]
      have : (nts xs).length = xs.length := by unfold nts; rw [List.length_map]
      refine ⟨by decide, by unfold sizeLine; omega, wkq (h' := hpP h L R e (at_ + 1 : Nat)) le' ?_⟩
      rw [ew] at k
      exact k
    rcases l with ⟨a, b, ha, hb, rfl, rfl⟩ | ⟨a, b, ha, hb, rfl, rfl⟩ | ⟨a, ha, rfl, rfl⟩
    · exact key wREAD [a, b] 2 rfl rfl rfl (by simp) (by intro c hc; simp at hc; rcases hc with rfl | rfl <;> assumption) (fun e => absurd e (by decide)) (leafy wREAD [a, b] rfl (by decide) (by simp))
    · exact key wWRITE [a, b] 2 rfl rfl rfl (by simp) (by intro c hc; simp at hc; rcases hc with rfl | rfl <;> assumption) (fun e => absurd e (by decide)) (leafy wWRITE [a, b] rfl (by decide) (by simp))
    · exact key wASK [a] 1 rfl rfl rfl (by simp) (by intro c hc; simp at hc; rw [hc]; omega) (fun _ => ⟨a, [], rfl, ha⟩) (leafy wASK [a] rfl (by decide) (by simp))
  · refine key wCALL [] 0 rfl rfl rfl (by simp) (by simp) (fun e => absurd e (by decide)) fun hh' le' hp' => ?_
    simp only [tb_what_of_1, body, dstart, dSeq, dIf, dAsg, dRet, dRetN, dNext, dDrop, dTest, dAnd, dOr, dNot, dAndV, dOrV, dNotV, dIfE, dOp, dUn, dC, dVar_e, dNil, dCons, dTup, dLst, dCall, dM1, dL1_e, dSl, oNo, oSo, gSet, gUn, gsCons, gsNil, dStI_e, dYes, ex_eq, ex_eq1, ex_bl, ex_str, ex_int, ex_ref, ex_tup, ex_cons, ex_lst1, ex_ins1, ex_ds, dFld_e, dStF_e, dMeth_e, split_1, qin_str, qnin_str, append_, add_ii, add_ss, add_tt, sub_ii, mul_ii, mul_si, div_ii, mod_ii, pow_ii, lt_ii, le_ii, gt_ii, ge_ii, neg_i, eq_ii, eq_ss, ne_ii, ne_ss, qix_tup, qix_cl, qix_str, at0, at1, at2, at3, qlen_tup, qlen_cl, qlen_str, toI_i, toI_b, toI_s, toS_i, toS_s, qsl_tup, qsl_cl, qsl_str, List.map_cons, List.map_nil, List.length_cons, List.length_nil, List.replicate, List.cons_append, List.nil_append, List.getElem?_cons_zero, List.getElem?_cons_succ, List.set_cons_zero, List.set_cons_succ, true_and, and_true, Nat.reduceAdd, Nat.reduceSub, decide_eq_true_eq, qix_ref hp']
    rw [if_pos (show wCALL = [99, 97, 108, 108] from rfl)]
    have st' := (s.go (at_ + 1)).le le'
    refine hc d' rfl st' hh hch hl ⟨by decide, wkq (h' := hpP h L R e (at_ + 1 + rs.length : Nat)) ?_ k⟩
    intro a o e
    have := le' a o
    simp only [hpP, dup] at this e ⊢
    grind
end k60

set_option Elab.async false
set_option linter.all false
set_option maxRecDepth 100000
set_option maxHeartbeats 1000000
namespace k60
open PySem PySem.Spec PyProof.Rows L2 ML
theorem index_S {a : Addr} {xs ys : List (List Nat)} {z : List Nat} {h : DH} {q : DQ} (hn : z ∉ xs) (k : q (.int xs.length) h) : dIndex a ((xs ++ z :: ys).map .str) (.str z) h q := by
  refine ⟨rfl, flat_strs _, xs.length, ?_, ⟨.str z, by simp, ?_⟩, k⟩
  · rw [← List.map_take, List.take_left]
    rw [List.all_map, List.all_eq_true]
    intro y hy
    have : eqF (.str y) (.str z) = decide (y = z) := rfl
    simp only [Function.comp, this]
    have : y ≠ z := fun e => hn (e ▸ hy)
    simp [this]
  · show decide (z = z) = true; simp
theorem colon_not {xs : List Nat} : ([58] : List Nat) ∉ xs.map TL.numL := by
  intro h
  obtain ⟨n, _, e⟩ := List.mem_map.mp h
  exact TL.numL_free (n := n) (s := 58) (.inr (by decide)) (by rw [e]; simp)
theorem p_step {K d : Nat} (hK : 3 ≤ K) (hw : PWhatOk K d) : PStepOk (K + 1) d := by
  intro L R e es wss at_ i sz n w held ws rs h q x s hh hn hd hwr hl k
  have hd1 := hd.1
  have ew : TL.numL n :: (held.map TL.numL ++ [58] :: ws) = (n :: held).map TL.numL ++ [58] :: ws := rfl
  have eg := hh.get
  simp only at eg
  rw [ew] at eg
  rw [cd_step_of]; simp only [tb_step_of, tb_step_of_4, tb_step_of_3, tb_step_of_2, tb_step_of_1, body, dstart, dSeq, dIf, dAsg, dRet, dRetN, dNext, dDrop, dTest, dAnd, dOr, dNot, dAndV, dOrV, dNotV, dIfE, dOp, dUn, dC, dVar_e, dNil, dCons, dTup, dLst, dCall, dM1, dL1_e, dSl, oNo, oSo, gSet, gUn, gsCons, gsNil, dStI_e, dYes, ex_eq, ex_eq1, ex_bl, ex_str, ex_int, ex_ref, ex_tup, ex_cons, ex_lst1, ex_ins1, ex_ds, dFld_e, dStF_e, dMeth_e, split_1, qin_str, qnin_str, append_, add_ii, add_ss, add_tt, sub_ii, mul_ii, mul_si, div_ii, mod_ii, pow_ii, lt_ii, le_ii, gt_ii, ge_ii, neg_i, eq_ii, eq_ss, ne_ii, ne_ss, qix_tup, qix_cl, qix_str, at0, at1, at2, at3, qlen_tup, qlen_cl, qlen_str, toI_i, toI_b, toI_s, toS_i, toS_s, qsl_tup, qsl_cl, qsl_str, List.map_cons, List.map_nil, List.length_cons, List.length_nil, List.replicate, List.cons_append, List.nil_append, List.getElem?_cons_zero, List.getElem?_cons_succ, List.set_cons_zero, List.set_cons_succ, true_and, and_true, Nat.reduceAdd, Nat.reduceSub, decide_eq_true_eq, meth_ s.ins]
  refine here_ok (by omega) s eg fun p hp => ?_
  simp only [body, dstart, dSeq, dIf, dAsg, dRet, dRetN, dNext, dDrop, dTest, dAnd, dOr, dNot, dAndV, dOrV, dNotV, dIfE, dOp, dUn, dC, dVar_e, dNil, dCons, dTup, dLst, dCall, dM1, dL1_e, dSl, oNo, oSo, gSet, gUn, gsCons, gsNil, dStI_e, dYes, ex_eq, ex_eq1, ex_bl, ex_str, ex_int, ex_ref, ex_tup, ex_cons, ex_lst1, ex_ins1, ex_ds, dFld_e, dStF_e, dMeth_e, split_1, qin_str, qnin_str, append_, add_ii, add_ss, add_tt, sub_ii, mul_ii, mul_si, div_ii, mod_ii, pow_ii, lt_ii, le_ii, gt_ii, ge_ii, neg_i, eq_ii, eq_ss, ne_ii, ne_ss, qix_tup, qix_cl, qix_str, at0, at1, at2, at3, qlen_tup, qlen_cl, qlen_str, toI_i, toI_b, toI_s, toS_i, toS_s, qsl_tup, qsl_cl, qsl_str, List.map_cons, List.map_nil, List.length_cons, List.length_nil, List.replicate, List.cons_append, List.nil_append, List.getElem?_cons_zero, List.getElem?_cons_succ, List.set_cons_zero, List.set_cons_succ, true_and, and_true, Nat.reduceAdd, Nat.reduceSub, decide_eq_true_eq, meth_ s.ins]
  refine in_refS hp ?_
  rw [show decide (([58] : List Nat) ∈ (n :: held).map TL.numL ++ [58] :: ws) = true from decide_eq_true (by simp)]
  refine need_ok (by omega) ?_
  rw [l1_ hp]
  simp only [body, dstart, dSeq, dIf, dAsg, dRet, dRetN, dNext, dDrop, dTest, dAnd, dOr, dNot, dAndV, dOrV, dNotV, dIfE, dOp, dUn, dC, dVar_e, dNil, dCons, dTup, dLst, dCall, dM1, dL1_e, dSl, oNo, oSo, gSet, gUn, gsCons, gsNil, dStI_e, dYes, ex_eq, ex_eq1, ex_bl, ex_str, ex_int, ex_ref, ex_tup, ex_cons, ex_lst1, ex_ins1, ex_ds, dFld_e, dStF_e, dMeth_e, split_1, qin_str, qnin_str, append_, add_ii, add_ss, add_tt, sub_ii, mul_ii, mul_si, div_ii, mod_ii, pow_ii, lt_ii, le_ii, gt_ii, ge_ii, neg_i, eq_ii, eq_ss, ne_ii, ne_ss, qix_tup, qix_cl, qix_str, at0, at1, at2, at3, qlen_tup, qlen_cl, qlen_str, toI_i, toI_b, toI_s, toS_i, toS_s, qsl_tup, qsl_cl, qsl_str, List.map_cons, List.map_nil, List.length_cons, List.length_nil, List.replicate, List.cons_append, List.nil_append, List.getElem?_cons_zero, List.getElem?_cons_succ, List.set_cons_zero, List.set_cons_succ, true_and, and_true, Nat.reduceAdd, Nat.reduceSub, decide_eq_true_eq]
  refine ⟨_, hp, index_S colon_not ?_⟩
  simp only [body, dstart, dSeq, dIf, dAsg, dRet, dRetN, dNext, dDrop, dTest, dAnd, dOr, dNot, dAndV, dOrV, dNotV, dIfE, dOp, dUn, dC, dVar_e, dNil, dCons, dTup, dLst, dCall, dM1, dL1_e, dSl, oNo, oSo, gSet, gUn, gsCons, gsNil, dStI_e, dYes, ex_eq, ex_eq1, ex_bl, ex_str, ex_int, ex_ref, ex_tup, ex_cons, ex_lst1, ex_ins1, ex_ds, dFld_e, dStF_e, dMeth_e, split_1, qin_str, qnin_str, append_, add_ii, add_ss, add_tt, sub_ii, mul_ii, mul_si, div_ii, mod_ii, pow_ii, lt_ii, le_ii, gt_ii, ge_ii, neg_i, eq_ii, eq_ss, ne_ii, ne_ss, qix_tup, qix_cl, qix_str, at0, at1, at2, at3, qlen_tup, qlen_cl, qlen_str, toI_i, toI_b, toI_s, toS_i, toS_s, qsl_tup, qsl_cl, qsl_str, List.map_cons, List.map_nil, List.length_cons, List.length_nil, List.replicate, List.cons_append, List.nil_append, List.getElem?_cons_zero, List.getElem?_cons_succ, List.set_cons_zero, List.set_cons_succ, true_and, and_true, Nat.reduceAdd, Nat.reduceSub, decide_eq_true_eq, meth_ s.ins, qsl_ref hp]
  refine fun p2 hp2 => ?_
  have nL : L ≠ p2 := free_ne s.ins hp2
  have np : p ≠ p2 := free_ne hp hp2
  have ec : cutD (((n :: held).map TL.numL ++ [58] :: ws).map D.str) none (some ((((n :: held).map TL.numL).length : Nat) : Int)) = ((n :: held).map TL.numL).map .str := by
    rw [cut_take, ← List.map_take, List.take_left]
  simp only [List.map_cons, List.length_cons, List.cons_append] at ec hp ⊢
  rw [ec]
  have eL : ∀ ds, dup h p2 (.lst ds) L = some (.ins 2 [.ref R, .int e, .int at_]) := fun ds => by rw [dup_ne nL]; exact s.ins
  have ep : ∀ ds, dup h p2 (.lst ds) p = some (.lst (.str (TL.numL n) :: (held.map TL.numL ++ [58] :: ws).map .str)) := fun ds => by rw [dup_ne np]; exact hp
  refine rn_ok (xs := n :: held) hK (eL _) dup_same (fun a ha => ?_) (by simp; omega) ?_
  · rcases List.mem_cons.mp ha with e | e
    · rw [e]; omega
    · exact hd.2 a e
  have n4 := TL.numL_len (n := n) (k := 4) (by decide) (by omega)
  simp only [c_MOST_FIGURES_booktext, nts, List.map_cons, body, dstart, dSeq, dIf, dAsg, dRet, dRetN, dNext, dDrop, dTest, dAnd, dOr, dNot, dAndV, dOrV, dNotV, dIfE, dOp, dUn, dC, dVar_e, dNil, dCons, dTup, dLst, dCall, dM1, dL1_e, dSl, oNo, oSo, gSet, gUn, gsCons, gsNil, dStI_e, dYes, ex_eq, ex_eq1, ex_bl, ex_str, ex_int, ex_ref, ex_tup, ex_cons, ex_lst1, ex_ins1, ex_ds, dFld_e, dStF_e, dMeth_e, split_1, qin_str, qnin_str, append_, add_ii, add_ss, add_tt, sub_ii, mul_ii, mul_si, div_ii, mod_ii, pow_ii, lt_ii, le_ii, gt_ii, ge_ii, neg_i, eq_ii, eq_ss, ne_ii, ne_ss, qix_tup, qix_cl, qix_str, at0, at1, at2, at3, qlen_tup, qlen_cl, qlen_str, toI_i, toI_b, toI_s, toS_i, toS_s, qsl_tup, qsl_cl, qsl_str, List.map_cons, List.map_nil, List.length_cons, List.length_nil, List.replicate, List.cons_append, List.nil_append, List.getElem?_cons_zero, List.getElem?_cons_succ, List.set_cons_zero, List.set_cons_succ, true_and, and_true, Nat.reduceAdd, Nat.reduceSub, decide_eq_true_eq, meth_ (eL _), qix_ref (ep _)]
  rw [if_pos (show (0 : Int) < _ by omega)]
  refine ⟨by unfold sizeLine; omega, ?_⟩
  rw [show decide (((TL.numL n).length : Int) ≤ 4) = true from decide_eq_true (by omega)]
  refine need_ok (by omega) ?_
  simp only [body, dstart, dSeq, dIf, dAsg, dRet, dRetN, dNext, dDrop, dTest, dAnd, dOr, dNot, dAndV, dOrV, dNotV, dIfE, dOp, dUn, dC, dVar_e, dNil, dCons, dTup, dLst, dCall, dM1, dL1_e, dSl, oNo, oSo, gSet, gUn, gsCons, gsNil, dStI_e, dYes, ex_eq, ex_eq1, ex_bl, ex_str, ex_int, ex_ref, ex_tup, ex_cons, ex_lst1, ex_ins1, ex_ds, dFld_e, dStF_e, dMeth_e, split_1, qin_str, qnin_str, append_, add_ii, add_ss, add_tt, sub_ii, mul_ii, mul_si, div_ii, mod_ii, pow_ii, lt_ii, le_ii, gt_ii, ge_ii, neg_i, eq_ii, eq_ss, ne_ii, ne_ss, qix_tup, qix_cl, qix_str, at0, at1, at2, at3, qlen_tup, qlen_cl, qlen_str, toI_i, toI_b, toI_s, toS_i, toS_s, qsl_tup, qsl_cl, qsl_str, List.map_cons, List.map_nil, List.length_cons, List.length_nil, List.replicate, List.cons_append, List.nil_append, List.getElem?_cons_zero, List.getElem?_cons_succ, List.set_cons_zero, List.set_cons_succ, true_and, and_true, Nat.reduceAdd, Nat.reduceSub, decide_eq_true_eq, qsl_ref (ep _)]
  refine fun p3 hp3 => ?_
  have ec2 : cutD (D.str (TL.numL n) :: (held.map TL.numL ++ [58] :: ws).map D.str) (some ((((held.map TL.numL).length + 1 : Nat) : Int) + 1)) none = ws.map .str := by
    have c := cut_drop (D.str (TL.numL n) :: (held.map TL.numL ++ [58] :: ws).map D.str) ((held.map TL.numL).length + 1 + 1)
    rw [show (((held.map TL.numL).length + 1 + 1 : Nat) : Int) = (((held.map TL.numL).length + 1 : Nat) : Int) + 1 by omega] at c
    rw [c, List.drop_succ_cons, ← List.map_drop, show held.map TL.numL ++ [58] :: ws = (held.map TL.numL ++ [[58]]) ++ ws by simp, List.drop_left' (by simp)]
  have ec3 : cutD (D.int (n : Int) :: held.map (fun (n : Nat) => D.int (n : Int))) (some 1) none = nts held := by
    rw [show (some (1 : Int)) = some ((1 : Nat) : Int) from rfl, cut_drop]; rfl
  rw [ec2, ec3]
  have l1 : Le h (dup (dup h p2 (.lst (D.str (TL.numL n) :: (held.map TL.numL).map D.str))) p3 (.lst (ws.map .str))) := (le_ne hp2).trans (le_ne hp3)
  refine hw (s.le l1) hh.tail hwr hl dup_same ⟨by decide, wkq ?_ k⟩
  intro a o e
  have := l1 a o
  simp only [hpP, dup] at this e ⊢
  grind
theorem rs_len {W : WT} {i sz : Nat} {x : D} {r : List D} {rs : List Row} (h : StsF W i (x :: r) rs sz) : ∃ a b, rs = a :: b := by
  obtain ⟨n, held, w, ws, r1, s1, r2, s2, _, _, _, _, e, _⟩ := h
  exact ⟨_, _, e⟩
theorem p_chain {K d : Nat} (hK : 4 ≤ K) (hw : PStepOk K d) : PChainOk (K + 1) d := by
  intro L R e es wss at_ i sz c rs h q x s hh hch hl k
  obtain ⟨nm, args, sts, ans, r1, rfl, hn, ha, hans, hs, rfl⟩ := hch
  simp only [List.length_cons, List.length_append, List.length_nil] at hl k
  have eg := hh.get
  simp only at eg
  rw [cd_chain_of]; simp only [tb_chain_of, tb_chain_of_7, tb_chain_of_6, body, dstart, dSeq, dIf, dAsg, dRet, dRetN, dNext, dDrop, dTest, dAnd, dOr, dNot, dAndV, dOrV, dNotV, dIfE, dOp, dUn, dC, dVar_e, dNil, dCons, dTup, dLst, dCall, dM1, dL1_e, dSl, oNo, oSo, gSet, gUn, gsCons, gsNil, dStI_e, dYes, ex_eq, ex_eq1, ex_bl, ex_str, ex_int, ex_ref, ex_tup, ex_cons, ex_lst1, ex_ins1, ex_ds, dFld_e, dStF_e, dMeth_e, split_1, qin_str, qnin_str, append_, add_ii, add_ss, add_tt, sub_ii, mul_ii, mul_si, div_ii, mod_ii, pow_ii, lt_ii, le_ii, gt_ii, ge_ii, neg_i, eq_ii, eq_ss, ne_ii, ne_ss, qix_tup, qix_cl, qix_str, at0, at1, at2, at3, qlen_tup, qlen_cl, qlen_str, toI_i, toI_b, toI_s, toS_i, toS_s, qsl_tup, qsl_cl, qsl_str, List.map_cons, List.map_nil, List.length_cons, List.length_nil, List.replicate, List.cons_append, List.nil_append, List.getElem?_cons_zero, List.getElem?_cons_succ, List.set_cons_zero, List.set_cons_succ, true_and, and_true, Nat.reduceAdd, Nat.reduceSub, decide_eq_true_eq]
  refine head_ok (by omega) s eg hn ha ?_
  simp only [body, dstart, dSeq, dIf, dAsg, dRet, dRetN, dNext, dDrop, dTest, dAnd, dOr, dNot, dAndV, dOrV, dNotV, dIfE, dOp, dUn, dC, dVar_e, dNil, dCons, dTup, dLst, dCall, dM1, dL1_e, dSl, oNo, oSo, gSet, gUn, gsCons, gsNil, dStI_e, dYes, ex_eq, ex_eq1, ex_bl, ex_str, ex_int, ex_ref, ex_tup, ex_cons, ex_lst1, ex_ins1, ex_ds, dFld_e, dStF_e, dMeth_e, split_1, qin_str, qnin_str, append_, add_ii, add_ss, add_tt, sub_ii, mul_ii, mul_si, div_ii, mod_ii, pow_ii, lt_ii, le_ii, gt_ii, ge_ii, neg_i, eq_ii, eq_ss, ne_ii, ne_ss, qix_tup, qix_cl, qix_str, at0, at1, at2, at3, qlen_tup, qlen_cl, qlen_str, toI_i, toI_b, toI_s, toS_i, toS_s, qsl_tup, qsl_cl, qsl_str, List.map_cons, List.map_nil, List.length_cons, List.length_nil, List.replicate, List.cons_append, List.nil_append, List.getElem?_cons_zero, List.getElem?_cons_succ, List.set_cons_zero, List.set_cons_succ, true_and, and_true, Nat.reduceAdd, Nat.reduceSub, decide_eq_true_eq]
  refine ⟨by decide, fun p hp => ?_⟩
  have pL : L ≠ p := by simp only [hpP, dup] at hp; intro e; subst e; simp at hp
  have gp : h p = none := by simp only [hpP, dup] at hp; grind
  unfold dWhile
  refine ⟨fun m s hh => ∃ (done rest : List Row) (ds rem : List D) (szr : Nat), m = rem.length ∧ StsF (WhR d) (i + 1) rem rest szr ∧ done ++ rest = r1 ∧ ds ++ rem = sts ∧ Le (dup (hpP h L R e (at_ + 1 + done.length : Nat)) p (.lst ds)) hh ∧
    s = [some (.ref L), some (.str nm), some (.tup (nts args)), some (.ref p), none, none], ⟨sts.length, wk0 ⟨[], r1, [], sts, sz, rfl, hs, rfl, rfl, .refl _, rfl⟩⟩, ?_⟩
  rintro m s0 hh0 ⟨done, rest, ds, rem, szr, rfl, hs1, e1, e2, hle, rfl⟩
  have st : St hh0 L R e es wss (at_ + 1 + done.length) := (s.go _).le (fun a o e => hle a o (by
    have := hp
    simp only [hpP, dup] at this e ⊢
    grind))
  have ep : hh0 p = some (.lst ds) := hle _ _ dup_same
  have hh1 : Here wss (at_ + 1 + done.length) (rest ++ [(i, [wBACK, TL.numL ans])]) := by
    have := hh.tail
    rw [← e1, List.append_assoc] at this
    exact this.right
  simp only [body, dstart, dSeq, dIf, dAsg, dRet, dRetN, dNext, dDrop, dTest, dAnd, dOr, dNot, dAndV, dOrV, dNotV, dIfE, dOp, dUn, dC, dVar_e, dNil, dCons, dTup, dLst, dCall, dM1, dL1_e, dSl, oNo, oSo, gSet, gUn, gsCons, gsNil, dStI_e, dYes, ex_eq, ex_eq1, ex_bl, ex_str, ex_int, ex_ref, ex_tup, ex_cons, ex_lst1, ex_ins1, ex_ds, dFld_e, dStF_e, dMeth_e, split_1, qin_str, qnin_str, append_, add_ii, add_ss, add_tt, sub_ii, mul_ii, mul_si, div_ii, mod_ii, pow_ii, lt_ii, le_ii, gt_ii, ge_ii, neg_i, eq_ii, eq_ss, ne_ii, ne_ss, qix_tup, qix_cl, qix_str, at0, at1, at2, at3, qlen_tup, qlen_cl, qlen_str, toI_i, toI_b, toI_s, toS_i, toS_s, qsl_tup, qsl_cl, qsl_str, List.map_cons, List.map_nil, List.length_cons, List.length_nil, List.replicate, List.cons_append, List.nil_append, List.getElem?_cons_zero, List.getElem?_cons_succ, List.set_cons_zero, List.set_cons_succ, true_and, and_true, Nat.reduceAdd, Nat.reduceSub, decide_eq_true_eq, meth_ st.ins]
  cases rem with
  | nil =>
    obtain ⟨rfl, rfl⟩ := hs1
    refine here_ok (by omega) st hh1.get fun p4 hp4 => ?_
    simp only [List.map_cons, List.map_nil] at hp4
    simp only [qix_ref hp4, body, dstart, dSeq, dIf, dAsg, dRet, dRetN, dNext, dDrop, dTest, dAnd, dOr, dNot, dAndV, dOrV, dNotV, dIfE, dOp, dUn, dC, dVar_e, dNil, dCons, dTup, dLst, dCall, dM1, dL1_e, dSl, oNo, oSo, gSet, gUn, gsCons, gsNil, dStI_e, dYes, ex_eq, ex_eq1, ex_bl, ex_str, ex_int, ex_ref, ex_tup, ex_cons, ex_lst1, ex_ins1, ex_ds, dFld_e, dStF_e, dMeth_e, split_1, qin_str, qnin_str, append_, add_ii, add_ss, add_tt, sub_ii, mul_ii, mul_si, div_ii, mod_ii, pow_ii, lt_ii, le_ii, gt_ii, ge_ii, neg_i, eq_ii, eq_ss, ne_ii, ne_ss, qix_tup, qix_cl, qix_str, at0, at1, at2, at3, qlen_tup, qlen_cl, qlen_str, toI_i, toI_b, toI_s, toS_i, toS_s, qsl_tup, qsl_cl, qsl_str, List.map_cons, List.map_nil, List.length_cons, List.length_nil, List.replicate, List.cons_append, List.nil_append, List.getElem?_cons_zero, List.getElem?_cons_succ, List.set_cons_zero, List.set_cons_succ, true_and, and_true, Nat.reduceAdd, Nat.reduceSub, decide_eq_true_eq]
    rw [show decide (wBACK = [98, 97, 99, 107]) = true from by decide]
    simp only [Bool.not_true, Bool.false_eq_true, if_false, tb_chain_of_5, tb_chain_of_4, tb_chain_of_3, tb_chain_of_2, body, dstart, dSeq, dIf, dAsg, dRet, dRetN, dNext, dDrop, dTest, dAnd, dOr, dNot, dAndV, dOrV, dNotV, dIfE, dOp, dUn, dC, dVar_e, dNil, dCons, dTup, dLst, dCall, dM1, dL1_e, dSl, oNo, oSo, gSet, gUn, gsCons, gsNil, dStI_e, dYes, ex_eq, ex_eq1, ex_bl, ex_str, ex_int, ex_ref, ex_tup, ex_cons, ex_lst1, ex_ins1, ex_ds, dFld_e, dStF_e, dMeth_e, split_1, qin_str, qnin_str, append_, add_ii, add_ss, add_tt, sub_ii, mul_ii, mul_si, div_ii, mod_ii, pow_ii, lt_ii, le_ii, gt_ii, ge_ii, neg_i, eq_ii, eq_ss, ne_ii, ne_ss, qix_tup, qix_cl, qix_str, at0, at1, at2, at3, qlen_tup, qlen_cl, qlen_str, toI_i, toI_b, toI_s, toS_i, toS_s, qsl_tup, qsl_cl, qsl_str, List.map_cons, List.map_nil, List.length_cons, List.length_nil, List.replicate, List.cons_append, List.nil_append, List.getElem?_cons_zero, List.getElem?_cons_succ, List.set_cons_zero, List.set_cons_succ, true_and, and_true, Nat.reduceAdd, Nat.reduceSub, decide_eq_true_eq, meth_ st.ins]
    refine here_ok (by omega) st hh1.get fun p5 hp5 => ?_
    simp only [List.map_cons, List.map_nil] at hp5
    simp only [body, dstart, dSeq, dIf, dAsg, dRet, dRetN, dNext, dDrop, dTest, dAnd, dOr, dNot, dAndV, dOrV, dNotV, dIfE, dOp, dUn, dC, dVar_e, dNil, dCons, dTup, dLst, dCall, dM1, dL1_e, dSl, oNo, oSo, gSet, gUn, gsCons, gsNil, dStI_e, dYes, ex_eq, ex_eq1, ex_bl, ex_str, ex_int, ex_ref, ex_tup, ex_cons, ex_lst1, ex_ins1, ex_ds, dFld_e, dStF_e, dMeth_e, split_1, qin_str, qnin_str, append_, add_ii, add_ss, add_tt, sub_ii, mul_ii, mul_si, div_ii, mod_ii, pow_ii, lt_ii, le_ii, gt_ii, ge_ii, neg_i, eq_ii, eq_ss, ne_ii, ne_ss, qix_tup, qix_cl, qix_str, at0, at1, at2, at3, qlen_tup, qlen_cl, qlen_str, toI_i, toI_b, toI_s, toS_i, toS_s, qsl_tup, qsl_cl, qsl_str, List.map_cons, List.map_nil, List.length_cons, List.length_nil, List.replicate, List.cons_append, List.nil_append, List.getElem?_cons_zero, List.getElem?_cons_succ, List.set_cons_zero, List.set_cons_succ, true_and, and_true, Nat.reduceAdd, Nat.reduceSub, decide_eq_true_eq, meth_ st.ins, qlen_ref hp5]
    rw [show decide (((2 : Nat) : Int) = 2) = true from by decide]
    refine need_ok (by omega) ?_
    simp only [body, dstart, dSeq, dIf, dAsg, dRet, dRetN, dNext, dDrop, dTest, dAnd, dOr, dNot, dAndV, dOrV, dNotV, dIfE, dOp, dUn, dC, dVar_e, dNil, dCons, dTup, dLst, dCall, dM1, dL1_e, dSl, oNo, oSo, gSet, gUn, gsCons, gsNil, dStI_e, dYes, ex_eq, ex_eq1, ex_bl, ex_str, ex_int, ex_ref, ex_tup, ex_cons, ex_lst1, ex_ins1, ex_ds, dFld_e, dStF_e, dMeth_e, split_1, qin_str, qnin_str, append_, add_ii, add_ss, add_tt, sub_ii, mul_ii, mul_si, div_ii, mod_ii, pow_ii, lt_ii, le_ii, gt_ii, ge_ii, neg_i, eq_ii, eq_ss, ne_ii, ne_ss, qix_tup, qix_cl, qix_str, at0, at1, at2, at3, qlen_tup, qlen_cl, qlen_str, toI_i, toI_b, toI_s, toS_i, toS_s, qsl_tup, qsl_cl, qsl_str, List.map_cons, List.map_nil, List.length_cons, List.length_nil, List.replicate, List.cons_append, List.nil_append, List.getElem?_cons_zero, List.getElem?_cons_succ, List.set_cons_zero, List.set_cons_succ, true_and, and_true, Nat.reduceAdd, Nat.reduceSub, decide_eq_true_eq, meth_ st.ins, qsl_ref hp5]
    refine fun p6 hp6 => ?_
    have nL : L ≠ p6 := free_ne st.ins hp6
    have n6 : p ≠ p6 := free_ne ep hp6
    have ec : cutD [D.str wBACK, D.str (TL.numL ans)] (some 1) none = ([ans].map TL.numL).map .str := by
      rw [show (some (1 : Int)) = some ((1 : Nat) : Int) from rfl, cut_drop]; rfl
    rw [ec]
    have eL : ∀ z, dup hh0 p6 z L = some (.ins 2 [.ref R, .int e, .int (at_ + 1 + done.length : Nat)]) := fun z => by rw [dup_ne nL]; exact st.ins
    refine rn_ok (xs := [ans]) (by omega) (eL _) dup_same (by intro a ha; simp at ha; rw [ha]; exact hans) (by simp) ?_
    simp only [body, dstart, dSeq, dIf, dAsg, dRet, dRetN, dNext, dDrop, dTest, dAnd, dOr, dNot, dAndV, dOrV, dNotV, dIfE, dOp, dUn, dC, dVar_e, dNil, dCons, dTup, dLst, dCall, dM1, dL1_e, dSl, oNo, oSo, gSet, gUn, gsCons, gsNil, dStI_e, dYes, ex_eq, ex_eq1, ex_bl, ex_str, ex_int, ex_ref, ex_tup, ex_cons, ex_lst1, ex_ins1, ex_ds, dFld_e, dStF_e, dMeth_e, split_1, qin_str, qnin_str, append_, add_ii, add_ss, add_tt, sub_ii, mul_ii, mul_si, div_ii, mod_ii, pow_ii, lt_ii, le_ii, gt_ii, ge_ii, neg_i, eq_ii, eq_ss, ne_ii, ne_ss, qix_tup, qix_cl, qix_str, at0, at1, at2, at3, qlen_tup, qlen_cl, qlen_str, toI_i, toI_b, toI_s, toS_i, toS_s, qsl_tup, qsl_cl, qsl_str, List.map_cons, List.map_nil, List.length_cons, List.length_nil, List.replicate, List.cons_append, List.nil_append, List.getElem?_cons_zero, List.getElem?_cons_succ, List.set_cons_zero, List.set_cons_succ, true_and, and_true, Nat.reduceAdd, Nat.reduceSub, decide_eq_true_eq, fld_ (eL _) (i := 2) rfl, stf_ (eL _) (i := 2) (by simp)]
    rw [qtup_ref (ds := ds) (by simp only [dup]; grind)]
    simp only [nts, List.map_cons, List.map_nil, body, dstart, dSeq, dIf, dAsg, dRet, dRetN, dNext, dDrop, dTest, dAnd, dOr, dNot, dAndV, dOrV, dNotV, dIfE, dOp, dUn, dC, dVar_e, dNil, dCons, dTup, dLst, dCall, dM1, dL1_e, dSl, oNo, oSo, gSet, gUn, gsCons, gsNil, dStI_e, dYes, ex_eq, ex_eq1, ex_bl, ex_str, ex_int, ex_ref, ex_tup, ex_cons, ex_lst1, ex_ins1, ex_ds, dFld_e, dStF_e, dMeth_e, split_1, qin_str, qnin_str, append_, add_ii, add_ss, add_tt, sub_ii, mul_ii, mul_si, div_ii, mod_ii, pow_ii, lt_ii, le_ii, gt_ii, ge_ii, neg_i, eq_ii, eq_ss, ne_ii, ne_ss, qix_tup, qix_cl, qix_str, at0, at1, at2, at3, qlen_tup, qlen_cl, qlen_str, toI_i, toI_b, toI_s, toS_i, toS_s, qsl_tup, qsl_cl, qsl_str, List.map_cons, List.map_nil, List.length_cons, List.length_nil, List.replicate, List.cons_append, List.nil_append, List.getElem?_cons_zero, List.getElem?_cons_succ, List.set_cons_zero, List.set_cons_succ, true_and, and_true, Nat.reduceAdd, Nat.reduceSub, decide_eq_true_eq]
    rw [List.append_nil] at e1 e2
    subst e1 e2
    refine ⟨by decide, wkq ?_ k⟩
    intro a o e
    have := hle a o
    simp only [hpP, dup, put_at] at this e hp6 ⊢
    grind
  | cons y rem =>
    obtain ⟨n, held, w, ws, r1', s1, r2, s2, rfl, hn', hd, hwr, rfl, hs2, rfl⟩ := hs1
    refine here_ok (by omega) st hh1.get fun p4 hp4 => ?_
    simp only [List.map_cons] at hp4
    simp only [qix_ref hp4, body, dstart, dSeq, dIf, dAsg, dRet, dRetN, dNext, dDrop, dTest, dAnd, dOr, dNot, dAndV, dOrV, dNotV, dIfE, dOp, dUn, dC, dVar_e, dNil, dCons, dTup, dLst, dCall, dM1, dL1_e, dSl, oNo, oSo, gSet, gUn, gsCons, gsNil, dStI_e, dYes, ex_eq, ex_eq1, ex_bl, ex_str, ex_int, ex_ref, ex_tup, ex_cons, ex_lst1, ex_ins1, ex_ds, dFld_e, dStF_e, dMeth_e, split_1, qin_str, qnin_str, append_, add_ii, add_ss, add_tt, sub_ii, mul_ii, mul_si, div_ii, mod_ii, pow_ii, lt_ii, le_ii, gt_ii, ge_ii, neg_i, eq_ii, eq_ss, ne_ii, ne_ss, qix_tup, qix_cl, qix_str, at0, at1, at2, at3, qlen_tup, qlen_cl, qlen_str, toI_i, toI_b, toI_s, toS_i, toS_s, qsl_tup, qsl_cl, qsl_str, List.map_cons, List.map_nil, List.length_cons, List.length_nil, List.replicate, List.cons_append, List.nil_append, List.getElem?_cons_zero, List.getElem?_cons_succ, List.set_cons_zero, List.set_cons_succ, true_and, and_true, Nat.reduceAdd, Nat.reduceSub, decide_eq_true_eq]
    have hne : ¬ TL.numL n = [98, 97, 99, 107] := fun e => TL.numL_free (n := n) (s := 98) (.inr (by decide)) (by rw [e]; simp)
    rw [show decide (TL.numL n = [98, 97, 99, 107]) = false from decide_eq_false hne]
    simp only [Bool.not_false, if_true, tb_chain_of_1, body, dstart, dSeq, dIf, dAsg, dRet, dRetN, dNext, dDrop, dTest, dAnd, dOr, dNot, dAndV, dOrV, dNotV, dIfE, dOp, dUn, dC, dVar_e, dNil, dCons, dTup, dLst, dCall, dM1, dL1_e, dSl, oNo, oSo, gSet, gUn, gsCons, gsNil, dStI_e, dYes, ex_eq, ex_eq1, ex_bl, ex_str, ex_int, ex_ref, ex_tup, ex_cons, ex_lst1, ex_ins1, ex_ds, dFld_e, dStF_e, dMeth_e, split_1, qin_str, qnin_str, append_, add_ii, add_ss, add_tt, sub_ii, mul_ii, mul_si, div_ii, mod_ii, pow_ii, lt_ii, le_ii, gt_ii, ge_ii, neg_i, eq_ii, eq_ss, ne_ii, ne_ss, qix_tup, qix_cl, qix_str, at0, at1, at2, at3, qlen_tup, qlen_cl, qlen_str, toI_i, toI_b, toI_s, toS_i, toS_s, qsl_tup, qsl_cl, qsl_str, List.map_cons, List.map_nil, List.length_cons, List.length_nil, List.replicate, List.cons_append, List.nil_append, List.getElem?_cons_zero, List.getElem?_cons_succ, List.set_cons_zero, List.set_cons_succ, true_and, and_true, Nat.reduceAdd, Nat.reduceSub, decide_eq_true_eq]
    rw [l1_ ep]
    simp only [body, dstart, dSeq, dIf, dAsg, dRet, dRetN, dNext, dDrop, dTest, dAnd, dOr, dNot, dAndV, dOrV, dNotV, dIfE, dOp, dUn, dC, dVar_e, dNil, dCons, dTup, dLst, dCall, dM1, dL1_e, dSl, oNo, oSo, gSet, gUn, gsCons, gsNil, dStI_e, dYes, ex_eq, ex_eq1, ex_bl, ex_str, ex_int, ex_ref, ex_tup, ex_cons, ex_lst1, ex_ins1, ex_ds, dFld_e, dStF_e, dMeth_e, split_1, qin_str, qnin_str, append_, add_ii, add_ss, add_tt, sub_ii, mul_ii, mul_si, div_ii, mod_ii, pow_ii, lt_ii, le_ii, gt_ii, ge_ii, neg_i, eq_ii, eq_ss, ne_ii, ne_ss, qix_tup, qix_cl, qix_str, at0, at1, at2, at3, qlen_tup, qlen_cl, qlen_str, toI_i, toI_b, toI_s, toS_i, toS_s, qsl_tup, qsl_cl, qsl_str, List.map_cons, List.map_nil, List.length_cons, List.length_nil, List.replicate, List.cons_append, List.nil_append, List.getElem?_cons_zero, List.getElem?_cons_succ, List.set_cons_zero, List.set_cons_succ, true_and, and_true, Nat.reduceAdd, Nat.reduceSub, decide_eq_true_eq]
    have lens : r1'.length ≤ 1000 := by rw [← e1] at hl; simp at hl; omega
    have dsl : ds.length ≤ 1000 := by
      have a1 : ∀ {xs : List D} {rs : List Row} {sz : Nat}, StsF (WhR d) (i + 1) xs rs sz → xs.length ≤ rs.length := by
        intro xs
        induction xs with
        | nil => intro rs sz _; simp
        | cons x r ih =>
          rintro rs sz ⟨_, _, _, _, _, _, _, _, _, _, _, _, rfl, h2, _⟩
          have := ih h2
          simp only [List.length_cons, List.length_append]; omega
      have := a1 hs
      rw [← e2] at this; simp only [List.length_append] at this; omega
    have hh2 : Here wss (at_ + 1 + done.length) (((i + 1, TL.numL n :: (held.map TL.numL ++ [58] :: ws)) :: r1') ++ (r2 ++ [(i, [wBACK, TL.numL ans])])) := by simpa using hh1
    refine hw st (rs := r1') hh2.left hn' hd hwr lens ⟨ds, ?_, by unfold sizeLine; omega, ?_⟩
    · simp only [hpP]; rw [dup_ne (Ne.symm pL)]; exact ep
    have el : at_ + 1 + done.length + 1 + r1'.length = at_ + 1 + (done ++ (i + 1, TL.numL n :: (held.map TL.numL ++ [58] :: ws)) :: r1').length := by simp; omega
    rw [el]
    refine wk0 ⟨rem.length, Nat.lt_succ_self _, done ++ (i + 1, TL.numL n :: (held.map TL.numL ++ [58] :: ws)) :: r1', r2, ds ++ [.tup [.int n, .tup (nts held), w]], rem, s2, rfl, hs2, by rw [← e1]; simp, by rw [← e2]; simp, ?_, rfl⟩
    intro a o e
    have := hle a o
    simp only [hpP, dup] at this e ⊢
    grind
theorem p_all : ∀ d K, 3 * d + 6 ≤ K → PChainOk K d
  | 0, K, h => by
    obtain ⟨k, rfl⟩ : ∃ k, K = k + 1 + 1 + 1 := ⟨K - 3, by omega⟩
    exact p_chain (by omega) (p_step (by omega) (p_what (by omega) fun d' e => by omega))
  | d + 1, K, h => by
    obtain ⟨k, rfl⟩ : ∃ k, K = k + 1 + 1 + 1 := ⟨K - 3, by omega⟩
    refine p_chain (by omega) (p_step (by omega) (p_what (by omega) fun d' e => ?_))
    obtain rfl : d = d' := by omega
    exact p_all d _ (by omega)
end k60

set_option Elab.async false
set_option linter.all false
set_option maxRecDepth 100000
set_option maxHeartbeats 1000000
namespace k60
open PySem PySem.Spec PyProof.Rows L2 ML
theorem spl_len (S : List Nat) : ∀ (l : List Nat) (k : Nat) (acc : List Nat), (TL.spl S k acc l).length ≤ l.length + 1
  | [], k, acc => by rw [TL.spl_nil]; simp
  | c :: r, 0, acc => by
    cases e : TL.pre S (c :: r) with
    | true => rw [TL.spl_hit e]; have := spl_len S r (S.length - 1) []; simp; omega
    | false => rw [TL.spl_miss e]; have := spl_len S r 0 (acc ++ [c]); simp; omega
  | c :: r, k + 1, acc => by
    have : TL.spl S (k + 1) acc (c :: r) = TL.spl S k acc r := rfl
    rw [this]; have := spl_len S r k acc; simp; omega
theorem comp_fil {chk : DH → Prop} {s : DS} (hs : 6 < s.length) {q : List D → DH → Prop} {h : DH} (hc : chk h) : ∀ (zs : List (List Nat)) (acc : List D), acc.length + zs.length < sizeLine → q (acc ++ (zs.filter fun w => decide (w ≠ [])).map .str) h →
    compD chk (gSet 6) (dTest (dOp dNe (dVar 6) (dC (.str [])))) (dVar 6) s q (zs.map .str) acc h
  | [], acc, _, z => ⟨hc, by rwa [List.filter_nil, List.map_nil, List.append_nil] at z⟩
  | z0 :: zs, acc, hl, z => by
    refine ⟨hc, ?_⟩
    have e1 : (s.set 6 (some (.str z0)))[6]? = some (some (.str z0)) := by rw [List.getElem?_set_self hs]
    simp only [List.length_cons] at hl
    simp only [gSet, dTest, dOp, dC, dVar_e, e1, ex_eq, ne_ss, ex_bl]
    by_cases e : z0 = []
    · rw [decide_eq_true e]
      simp only [Bool.not_true, Bool.false_eq_true, if_false]
      rw [List.filter_cons_of_neg (by simpa using e)] at z
      exact ⟨h, .refl _, comp_fil hs hc zs acc (by omega) z⟩
    · rw [decide_eq_false e]
      simp only [Bool.not_false, if_true]
      rw [List.filter_cons_of_pos (by simpa using e)] at z
      exact ⟨by omega, h, .refl _, comp_fil hs hc zs _ (by simp; omega) (by rw [List.append_assoc]; exact z)⟩
def EnumR : List D → List (List Nat) → Prop
  | [], [] => True
  | y :: r, l :: ls => (∃ k : Nat, y = .tup [.int k, .str l]) ∧ EnumR r ls
  | _, _ => False
theorem enum_r : ∀ (ls : List (List Nat)) (n : Nat), EnumR (((ls.map D.str).zipIdx n).map fun q : D × Nat => .tup [.int (q.2 : Int), q.1]) ls
  | [], _ => trivial
  | l :: ls, n => ⟨⟨n, rfl⟩, enum_r ls (n + 1)⟩
theorem put_0 {d : D} : ML.putAt [] 0 d = [d] := rfl
theorem put_1 {a d : D} : ML.putAt [a] 1 d = [a, d] := rfl
theorem put_2 {a b d : D} : ML.putAt [a, b] 2 d = [a, b, d] := rfl
theorem init_ok {K : Nat} {L : Addr} {ls : List (List Nat)} {rs : List Row} {h : DH} {q : DQ} {x : DX} (hK : 1 ≤ K) (hL : h L = some (.ins 2 [])) (hl : LinesOf ls rs)
    (k : ∀ R e es h', (∀ a o, a ≠ L → h a = some o → h' a = some o) → St h' L R e es (rs.map (·.2)) 0 → q .non h') : (callD K).Lines___init [.ref L, .str (TL.joinL [10] ls)] h q x := by
  obtain ⟨jj, rfl⟩ : ∃ j, K = j + 1 := ⟨K - 1, by omega⟩
  have few := hl.few
  have tl : (TL.joinL [10] ls).length + 2 ≤ sizeLine := by
    have : ∀ {zs : List (List Nat)}, (∀ z ∈ zs, z.length ≤ 400) → (TL.joinL [10] zs).length ≤ zs.length * 401 := by
      intro zs
      induction zs with
      | nil => intro _; simp [TL.joinL]
      | cons w ws ih =>
        intro h
        have h1 := h w (List.mem_cons_self ..)
        cases ws with
        | nil => show w.length ≤ _; simp; omega
        | cons a r =>
          have h2 := ih fun z hz => h z (List.mem_cons_of_mem _ hz)
          rw [joinL_cons (by simp)]
          simp only [List.length_append, List.length_cons, List.length_nil] at h2 ⊢
          omega
    have h2 := this hl.le
    unfold sizeLine; omega
  rw [cd_Lines___init]; simp only [tb_Lines___init, tb_Lines___init_5, tb_Lines___init_4, tb_Lines___init_3, body, dstart, dSeq, dIf, dAsg, dRet, dRetN, dNext, dDrop, dTest, dAnd, dOr, dNot, dAndV, dOrV, dNotV, dIfE, dOp, dUn, dC, dVar_e, dNil, dCons, dTup, dLst, dCall, dM1, dL1_e, dSl, oNo, oSo, gSet, gUn, gsCons, gsNil, dStI_e, dYes, ex_eq, ex_eq1, ex_bl, ex_str, ex_int, ex_ref, ex_tup, ex_cons, ex_lst1, ex_ins1, ex_ds, dFld_e, dStF_e, dMeth_e, split_1, qin_str, qnin_str, append_, add_ii, add_ss, add_tt, sub_ii, mul_ii, mul_si, div_ii, mod_ii, pow_ii, lt_ii, le_ii, gt_ii, ge_ii, neg_i, eq_ii, eq_ss, ne_ii, ne_ss, qix_tup, qix_cl, qix_str, at0, at1, at2, at3, qlen_tup, qlen_cl, qlen_str, toI_i, toI_b, toI_s, toS_i, toS_s, qsl_tup, qsl_cl, qsl_str, List.map_cons, List.map_nil, List.length_cons, List.length_nil, List.replicate, List.cons_append, List.nil_append, List.getElem?_cons_zero, List.getElem?_cons_succ, List.set_cons_zero, List.set_cons_succ, true_and, and_true, Nat.reduceAdd, Nat.reduceSub, decide_eq_true_eq]
  refine ⟨by decide, fun R hR => ?_⟩
  have nLR : L ≠ R := free_ne hL hR
  rw [stf_ (fs := []) (by rw [dup_ne nLR]; exact hL) (by simp)]
  simp only [put_0, body, dstart, dSeq, dIf, dAsg, dRet, dRetN, dNext, dDrop, dTest, dAnd, dOr, dNot, dAndV, dOrV, dNotV, dIfE, dOp, dUn, dC, dVar_e, dNil, dCons, dTup, dLst, dCall, dM1, dL1_e, dSl, oNo, oSo, gSet, gUn, gsCons, gsNil, dStI_e, dYes, ex_eq, ex_eq1, ex_bl, ex_str, ex_int, ex_ref, ex_tup, ex_cons, ex_lst1, ex_ins1, ex_ds, dFld_e, dStF_e, dMeth_e, split_1, qin_str, qnin_str, append_, add_ii, add_ss, add_tt, sub_ii, mul_ii, mul_si, div_ii, mod_ii, pow_ii, lt_ii, le_ii, gt_ii, ge_ii, neg_i, eq_ii, eq_ss, ne_ii, ne_ss, qix_tup, qix_cl, qix_str, at0, at1, at2, at3, qlen_tup, qlen_cl, qlen_str, toI_i, toI_b, toI_s, toS_i, toS_s, qsl_tup, qsl_cl, qsl_str, List.map_cons, List.map_nil, List.length_cons, List.length_nil, List.replicate, List.cons_append, List.nil_append, List.getElem?_cons_zero, List.getElem?_cons_succ, List.set_cons_zero, List.set_cons_succ, true_and, and_true, Nat.reduceAdd, Nat.reduceSub, decide_eq_true_eq]
  rw [split_1 (by decide)]
  refine ⟨tl, fun p2 hp2 => ?_⟩
  rw [TL.spl_join hl.ne hl.nl]
  have n2 : p2 ≠ L ∧ p2 ≠ R ∧ h p2 = none := by simp only [dup] at hp2; grind
  simp only [dFor, ML.iEnum, body, dstart, dSeq, dIf, dAsg, dRet, dRetN, dNext, dDrop, dTest, dAnd, dOr, dNot, dAndV, dOrV, dNotV, dIfE, dOp, dUn, dC, dVar_e, dNil, dCons, dTup, dLst, dCall, dM1, dL1_e, dSl, oNo, oSo, gSet, gUn, gsCons, gsNil, dStI_e, dYes, ex_eq, ex_eq1, ex_bl, ex_str, ex_int, ex_ref, ex_tup, ex_cons, ex_lst1, ex_ins1, ex_ds, dFld_e, dStF_e, dMeth_e, split_1, qin_str, qnin_str, append_, add_ii, add_ss, add_tt, sub_ii, mul_ii, mul_si, div_ii, mod_ii, pow_ii, lt_ii, le_ii, gt_ii, ge_ii, neg_i, eq_ii, eq_ss, ne_ii, ne_ss, qix_tup, qix_cl, qix_str, at0, at1, at2, at3, qlen_tup, qlen_cl, qlen_str, toI_i, toI_b, toI_s, toS_i, toS_s, qsl_tup, qsl_cl, qsl_str, List.map_cons, List.map_nil, List.length_cons, List.length_nil, List.replicate, List.cons_append, List.nil_append, List.getElem?_cons_zero, List.getElem?_cons_succ, List.set_cons_zero, List.set_cons_succ, true_and, and_true, Nat.reduceAdd, Nat.reduceSub, decide_eq_true_eq]
  refine ⟨_, _, rfl, dup_same, wk0 (for_ind (fun rem s hh => ∃ (dn rest : List (List Nat)) (es : List D) (v3 v4 v5 v6 : Option D), EnumR rem rest ∧ dn ++ rest = ls ∧ hh L = some (.ins 2 [.ref R]) ∧ hh R = some (.lst es) ∧ hh p2 = some (.lst (ls.map .str)) ∧
    EsOk (fun a => if a = R then none else hh a) es ((dn.map toks).filter fun w => decide (w ≠ [])) ∧ (∀ a o, a ≠ L → h a = some o → hh a = some o) ∧ s = [some (.ref L), some (.str (TL.joinL [10] ls)), some (.ref p2), v3, v4, v5, v6]) ?_ ?_ _ _ _ ⟨[], ls, [], _, _, _, _, enum_r ls 0, rfl, ?_, ?_, dup_same, trivial, ?_, rfl⟩)⟩
  · rintro s hh ⟨dn, rest, es, v3, v4, v5, v6, er, e1, eL, eR, e2, eo, old, rfl⟩
    have r0 : rest = [] := by cases rest with | nil => rfl | cons => exact er.elim
    subst r0
    rw [List.append_nil] at e1
    subst e1
    refine ⟨e2, ?_⟩
    simp only [body, dstart, dSeq, dIf, dAsg, dRet, dRetN, dNext, dDrop, dTest, dAnd, dOr, dNot, dAndV, dOrV, dNotV, dIfE, dOp, dUn, dC, dVar_e, dNil, dCons, dTup, dLst, dCall, dM1, dL1_e, dSl, oNo, oSo, gSet, gUn, gsCons, gsNil, dStI_e, dYes, ex_eq, ex_eq1, ex_bl, ex_str, ex_int, ex_ref, ex_tup, ex_cons, ex_lst1, ex_ins1, ex_ds, dFld_e, dStF_e, dMeth_e, split_1, qin_str, qnin_str, append_, add_ii, add_ss, add_tt, sub_ii, mul_ii, mul_si, div_ii, mod_ii, pow_ii, lt_ii, le_ii, gt_ii, ge_ii, neg_i, eq_ii, eq_ss, ne_ii, ne_ss, qix_tup, qix_cl, qix_str, at0, at1, at2, at3, qlen_tup, qlen_cl, qlen_str, toI_i, toI_b, toI_s, toS_i, toS_s, qsl_tup, qsl_cl, qsl_str, List.map_cons, List.map_nil, List.length_cons, List.length_nil, List.replicate, List.cons_append, List.nil_append, List.getElem?_cons_zero, List.getElem?_cons_succ, List.set_cons_zero, List.set_cons_succ, true_and, and_true, Nat.reduceAdd, Nat.reduceSub, decide_eq_true_eq, qlen_ref e2]
    rw [stf_ eL (by simp)]
    simp only [put_1, body, dstart, dSeq, dIf, dAsg, dRet, dRetN, dNext, dDrop, dTest, dAnd, dOr, dNot, dAndV, dOrV, dNotV, dIfE, dOp, dUn, dC, dVar_e, dNil, dCons, dTup, dLst, dCall, dM1, dL1_e, dSl, oNo, oSo, gSet, gUn, gsCons, gsNil, dStI_e, dYes, ex_eq, ex_eq1, ex_bl, ex_str, ex_int, ex_ref, ex_tup, ex_cons, ex_lst1, ex_ins1, ex_ds, dFld_e, dStF_e, dMeth_e, split_1, qin_str, qnin_str, append_, add_ii, add_ss, add_tt, sub_ii, mul_ii, mul_si, div_ii, mod_ii, pow_ii, lt_ii, le_ii, gt_ii, ge_ii, neg_i, eq_ii, eq_ss, ne_ii, ne_ss, qix_tup, qix_cl, qix_str, at0, at1, at2, at3, qlen_tup, qlen_cl, qlen_str, toI_i, toI_b, toI_s, toS_i, toS_s, qsl_tup, qsl_cl, qsl_str, List.map_cons, List.map_nil, List.length_cons, List.length_nil, List.replicate, List.cons_append, List.nil_append, List.getElem?_cons_zero, List.getElem?_cons_succ, List.set_cons_zero, List.set_cons_succ, true_and, and_true, Nat.reduceAdd, Nat.reduceSub, decide_eq_true_eq]
    rw [stf_ dup_same (by simp)]
    simp only [put_2, dup_dup, body, dstart, dSeq, dIf, dAsg, dRet, dRetN, dNext, dDrop, dTest, dAnd, dOr, dNot, dAndV, dOrV, dNotV, dIfE, dOp, dUn, dC, dVar_e, dNil, dCons, dTup, dLst, dCall, dM1, dL1_e, dSl, oNo, oSo, gSet, gUn, gsCons, gsNil, dStI_e, dYes, ex_eq, ex_eq1, ex_bl, ex_str, ex_int, ex_ref, ex_tup, ex_cons, ex_lst1, ex_ins1, ex_ds, dFld_e, dStF_e, dMeth_e, split_1, qin_str, qnin_str, append_, add_ii, add_ss, add_tt, sub_ii, mul_ii, mul_si, div_ii, mod_ii, pow_ii, lt_ii, le_ii, gt_ii, ge_ii, neg_i, eq_ii, eq_ss, ne_ii, ne_ss, qix_tup, qix_cl, qix_str, at0, at1, at2, at3, qlen_tup, qlen_cl, qlen_str, toI_i, toI_b, toI_s, toS_i, toS_s, qsl_tup, qsl_cl, qsl_str, List.map_cons, List.map_nil, List.length_cons, List.length_nil, List.replicate, List.cons_append, List.nil_append, List.getElem?_cons_zero, List.getElem?_cons_succ, List.set_cons_zero, List.set_cons_succ, true_and, and_true, Nat.reduceAdd, Nat.reduceSub, decide_eq_true_eq]
    refine wkq0 (k R _ es _ (fun a o n e => by rw [dup_ne n]; exact old a o n e) ⟨dup_same, by rw [dup_ne (Ne.symm nLR)]; exact eR, ?_⟩)
    rw [← hl.tk]
    refine eo.imp fun p ds o => ?_
    have o : hh p = some (.lst ds) := by grind
    have : p ≠ L := by intro e; subst e; rw [eL] at o; cases o
    rw [dup_ne this]; exact o
  · rintro y rem s hh ⟨dn, rest, es, v3, v4, v5, v6, er, e1, eL, eR, e2, eo, old, rfl⟩
    cases rest with
    | nil => exact er.elim
    | cons l rest =>
    obtain ⟨⟨kk, rfl⟩, er⟩ := er
    refine ⟨e2, fun F hF => ?_⟩
    have ll := hl.le l (by rw [← e1]; simp)
    simp only [tb_Lines___init_2, tb_Lines___init_1, dLc, iAny, body, dstart, dSeq, dIf, dAsg, dRet, dRetN, dNext, dDrop, dTest, dAnd, dOr, dNot, dAndV, dOrV, dNotV, dIfE, dOp, dUn, dC, dVar_e, dNil, dCons, dTup, dLst, dCall, dM1, dL1_e, dSl, oNo, oSo, gSet, gUn, gsCons, gsNil, dStI_e, dYes, ex_eq, ex_eq1, ex_bl, ex_str, ex_int, ex_ref, ex_tup, ex_cons, ex_lst1, ex_ins1, ex_ds, dFld_e, dStF_e, dMeth_e, split_1, qin_str, qnin_str, append_, add_ii, add_ss, add_tt, sub_ii, mul_ii, mul_si, div_ii, mod_ii, pow_ii, lt_ii, le_ii, gt_ii, ge_ii, neg_i, eq_ii, eq_ss, ne_ii, ne_ss, qix_tup, qix_cl, qix_str, at0, at1, at2, at3, qlen_tup, qlen_cl, qlen_str, toI_i, toI_b, toI_s, toS_i, toS_s, qsl_tup, qsl_cl, qsl_str, List.map_cons, List.map_nil, List.length_cons, List.length_nil, List.replicate, List.cons_append, List.nil_append, List.getElem?_cons_zero, List.getElem?_cons_succ, List.set_cons_zero, List.set_cons_succ, true_and, and_true, Nat.reduceAdd, Nat.reduceSub, decide_eq_true_eq]
    rw [split_1 (by decide)]
    refine ⟨by unfold sizeLine; omega, fun p3 hp3 => ?_⟩
    have sl := spl_len [32] l 0 []
    refine ⟨_, dup_same, _, .refl _, comp_fil (by simp [dwipe]) dup_same _ [] (by simp; unfold sizeLine; omega) fun p4 hp4 => ?_⟩
    rw [List.nil_append]
    have et : ((TL.spl [32] 0 [] l).filter fun w => decide (w ≠ [])) = toks l := rfl
    rw [et]
    have n3 : p3 ≠ L ∧ p3 ≠ R ∧ p3 ≠ p2 := by refine ⟨?_, ?_, ?_⟩ <;> (intro e; subst e; simp_all)
    have n4 : p4 ≠ L ∧ p4 ≠ R ∧ p4 ≠ p2 ∧ p4 ≠ p3 ∧ hh p4 = none := by simp only [dup] at hp4; grind
    rw [qlen_ref dup_same]
    simp only [body, dstart, dSeq, dIf, dAsg, dRet, dRetN, dNext, dDrop, dTest, dAnd, dOr, dNot, dAndV, dOrV, dNotV, dIfE, dOp, dUn, dC, dVar_e, dNil, dCons, dTup, dLst, dCall, dM1, dL1_e, dSl, oNo, oSo, gSet, gUn, gsCons, gsNil, dStI_e, dYes, ex_eq, ex_eq1, ex_bl, ex_str, ex_int, ex_ref, ex_tup, ex_cons, ex_lst1, ex_ins1, ex_ds, dFld_e, dStF_e, dMeth_e, split_1, qin_str, qnin_str, append_, add_ii, add_ss, add_tt, sub_ii, mul_ii, mul_si, div_ii, mod_ii, pow_ii, lt_ii, le_ii, gt_ii, ge_ii, neg_i, eq_ii, eq_ss, ne_ii, ne_ss, qix_tup, qix_cl, qix_str, at0, at1, at2, at3, qlen_tup, qlen_cl, qlen_str, toI_i, toI_b, toI_s, toS_i, toS_s, qsl_tup, qsl_cl, qsl_str, List.map_cons, List.map_nil, List.length_cons, List.length_nil, List.replicate, List.cons_append, List.nil_append, List.getElem?_cons_zero, List.getElem?_cons_succ, List.set_cons_zero, List.set_cons_succ, true_and, and_true, Nat.reduceAdd, Nat.reduceSub, decide_eq_true_eq, List.length_map]
    have dnl : dn.length ≤ 3000 := by rw [← e1] at few; simp at few; omega
    have el : es.length ≤ dn.length := by
      rw [eo.len]
      have := List.length_filter_le (fun w : List (List Nat) => decide (w ≠ [])) (dn.map toks)
      rwa [List.length_map] at this
    by_cases ht : toks l = []
    · rw [ht]
      rw [if_neg (by simp)]
      refine hF _ _ _ hh ⟨rfl, fun _ _ e => e⟩ ((le_ne hp3).trans (le_ne hp4)) ⟨dn ++ [l], rest, es, _, _, _, _, er, by rw [← e1]; simp, eL, eR, e2, ?_, old, rfl⟩
      rw [List.map_append, List.filter_append, List.map_cons, ht]
      simpa using eo
    · have hp0 : 0 < (toks l).length := List.length_pos_iff.mpr ht
      rw [if_pos (by omega), fld_ (fs := [.ref R]) (d := .ref R) (by simp only [dup]; grind) rfl, l1_ (ds := es) (by simp only [dup]; grind)]
      simp only [body, dstart, dSeq, dIf, dAsg, dRet, dRetN, dNext, dDrop, dTest, dAnd, dOr, dNot, dAndV, dOrV, dNotV, dIfE, dOp, dUn, dC, dVar_e, dNil, dCons, dTup, dLst, dCall, dM1, dL1_e, dSl, oNo, oSo, gSet, gUn, gsCons, gsNil, dStI_e, dYes, ex_eq, ex_eq1, ex_bl, ex_str, ex_int, ex_ref, ex_tup, ex_cons, ex_lst1, ex_ins1, ex_ds, dFld_e, dStF_e, dMeth_e, split_1, qin_str, qnin_str, append_, add_ii, add_ss, add_tt, sub_ii, mul_ii, mul_si, div_ii, mod_ii, pow_ii, lt_ii, le_ii, gt_ii, ge_ii, neg_i, eq_ii, eq_ss, ne_ii, ne_ss, qix_tup, qix_cl, qix_str, at0, at1, at2, at3, qlen_tup, qlen_cl, qlen_str, toI_i, toI_b, toI_s, toS_i, toS_s, qsl_tup, qsl_cl, qsl_str, List.map_cons, List.map_nil, List.length_cons, List.length_nil, List.replicate, List.cons_append, List.nil_append, List.getElem?_cons_zero, List.getElem?_cons_succ, List.set_cons_zero, List.set_cons_succ, true_and, and_true, Nat.reduceAdd, Nat.reduceSub, decide_eq_true_eq]
      refine ⟨by decide, es, by simp only [dup]; grind, by unfold sizeLine; omega, ?_⟩
      refine hF _ _ _ _ ⟨rfl, fun _ _ e => e⟩ (.refl _) ⟨dn ++ [l], rest, es ++ [.tup [.int ((kk : Int) + 1), .ref p4]], _, _, _, _, er, by rw [← e1]; simp, by simp only [dup]; grind, dup_same, by simp only [dup]; grind, ?_, ?_, rfl⟩
      · rw [List.map_append, List.filter_append, List.map_cons, List.filter_cons_of_pos (by simpa using ht)]
        refine EsOk.snoc (by simp only [dup]; grind) (eo.imp fun p ds o => ?_)
        have a3 : p ≠ R := by grind
        rw [if_neg a3] at o ⊢
        have a1 : p ≠ p3 := free_ne o hp3
        have a2 : p ≠ p4 := free_ne o n4.2.2.2.2
        rw [dup_ne a3, dup_ne a2, dup_ne a1]; exact o
      · intro a o n e
        have := old a o n e
        have : a ≠ R := by intro e2; subst e2; rw [hR] at e; cases e
        simp only [dup] at hp4 ⊢
        grind
  · simp only [dup]; grind
  · simp only [dup]; grind
  · intro a o n e
    simp only [dup] at hp2 ⊢
    grind
theorem read_ok {K d : Nat} {ls : List (List Nat)} {rs : List Row} {c : D} {sz : Nat} {h : DH} {q : DQ} {x : DX} (hK : 3 * d + 7 ≤ K) (hl : LinesOf ls rs) (hc : ChF (WhR d) 0 c rs sz) (hr : rs.length ≤ 1000) (k : q c h) : (callD K).read_book [.str (TL.joinL [10] ls)] h q x := by
  obtain ⟨jj, rfl⟩ : ∃ j, K = j + 1 := ⟨K - 1, by omega⟩
  rw [cd_read_book]; simp only [tb_read_book_1, tb_read_book_2, tb_read_book, dMake, body, dstart, dSeq, dIf, dAsg, dRet, dRetN, dNext, dDrop, dTest, dAnd, dOr, dNot, dAndV, dOrV, dNotV, dIfE, dOp, dUn, dC, dVar_e, dNil, dCons, dTup, dLst, dCall, dM1, dL1_e, dSl, oNo, oSo, gSet, gUn, gsCons, gsNil, dStI_e, dYes, ex_eq, ex_eq1, ex_bl, ex_str, ex_int, ex_ref, ex_tup, ex_cons, ex_lst1, ex_ins1, ex_ds, dFld_e, dStF_e, dMeth_e, split_1, qin_str, qnin_str, append_, add_ii, add_ss, add_tt, sub_ii, mul_ii, mul_si, div_ii, mod_ii, pow_ii, lt_ii, le_ii, gt_ii, ge_ii, neg_i, eq_ii, eq_ss, ne_ii, ne_ss, qix_tup, qix_cl, qix_str, at0, at1, at2, at3, qlen_tup, qlen_cl, qlen_str, toI_i, toI_b, toI_s, toS_i, toS_s, qsl_tup, qsl_cl, qsl_str, List.map_cons, List.map_nil, List.length_cons, List.length_nil, List.replicate, List.cons_append, List.nil_append, List.getElem?_cons_zero, List.getElem?_cons_succ, List.set_cons_zero, List.set_cons_succ, true_and, and_true, Nat.reduceAdd, Nat.reduceSub, decide_eq_true_eq]
  refine fun L hL => init_ok (by omega) dup_same hl fun R e es h' old st => ⟨rfl, ?_⟩
  have old : ∀ a o, h a = some o → h' a = some o := fun a o e => old a o (free_ne e hL) (by rw [dup_ne (free_ne e hL)]; exact e)
  refine p_all d jj (by omega) st ⟨[], [], by simp, rfl⟩ hc hr ?_
  have st2 := st.go (0 + rs.length)
  have ln : es.length = rs.length := by rw [st.oks.len, List.length_map]
  simp only [body, dstart, dSeq, dIf, dAsg, dRet, dRetN, dNext, dDrop, dTest, dAnd, dOr, dNot, dAndV, dOrV, dNotV, dIfE, dOp, dUn, dC, dVar_e, dNil, dCons, dTup, dLst, dCall, dM1, dL1_e, dSl, oNo, oSo, gSet, gUn, gsCons, gsNil, dStI_e, dYes, ex_eq, ex_eq1, ex_bl, ex_str, ex_int, ex_ref, ex_tup, ex_cons, ex_lst1, ex_ins1, ex_ds, dFld_e, dStF_e, dMeth_e, split_1, qin_str, qnin_str, append_, add_ii, add_ss, add_tt, sub_ii, mul_ii, mul_si, div_ii, mod_ii, pow_ii, lt_ii, le_ii, gt_ii, ge_ii, neg_i, eq_ii, eq_ss, ne_ii, ne_ss, qix_tup, qix_cl, qix_str, at0, at1, at2, at3, qlen_tup, qlen_cl, qlen_str, toI_i, toI_b, toI_s, toS_i, toS_s, qsl_tup, qsl_cl, qsl_str, List.map_cons, List.map_nil, List.length_cons, List.length_nil, List.replicate, List.cons_append, List.nil_append, List.getElem?_cons_zero, List.getElem?_cons_succ, List.set_cons_zero, List.set_cons_succ, true_and, and_true, Nat.reduceAdd, Nat.reduceSub, decide_eq_true_eq, meth_ st2.ins, fld_ st2.ins (i := 2) rfl, fld_ st2.ins (i := 0) rfl, qlen_ref st2.lst]
  rw [show decide (((0 + rs.length : Nat) : Int) = es.length) = true from decide_eq_true (by rw [ln]; omega)]
  refine need_ok (by omega) (wkq (h' := h) ?_ k)
  intro a o e
  have n1 : a ≠ L := free_ne e hL
  rw [hpP, dup_ne n1]; exact old a o e
end k60

set_option Elab.async false
set_option linter.all false
set_option maxRecDepth 100000
set_option maxHeartbeats 1000000
namespace k60
open PySem PySem.Spec PyProof.Rows L2 ML
/-! ### alike -/
inductive Plain : Nat → D → Prop
  | int (n : Nat) (i : Int) : Plain n (.int i)
  | str (n : Nat) (z : List Nat) : Plain n (.str z)
  | tup (n : Nat) (ds : List D) (h : ∀ d ∈ ds, Plain n d) (l : ds.length ≤ 5000) : Plain (n + 1) (.tup ds)
theorem bls_true : ∀ n, blsOf (List.replicate n (.bl true)) = some (List.replicate n true)
  | 0 => rfl
  | n + 1 => by rw [List.replicate_succ, blsOf, bls_true n]; rfl
theorem comp_alike {C : Cl} {ds : List D} {h : DH} {v2 : Option D} {q : List D → DH → Prop} (hd : ∀ d ∈ ds, ∀ q x, q (.bl true) h → C.l_alike [d, d] h q x) : ∀ (items : List D) (n : Nat), (∀ y ∈ items, ∃ j : Nat, y = .int j ∧ j < ds.length) → n + items.length < sizeLine →
    (q (List.replicate (n + items.length) (.bl true)) h) → compD (fun _ => True) (gSet 2) dYes (dCall C.l_alike dNoW (dCons (dOp dIx (dVar 0) (dVar 2)) (dCons (dOp dIx (dVar 1) (dVar 2)) dNil))) [some (.tup ds), some (.tup ds), v2] q items (List.replicate n (.bl true)) h
  | [], n, _, _, z => ⟨trivial, z⟩
  | y :: r, n, hy, hl, z => by
    obtain ⟨j, rfl, hj⟩ := hy y (List.mem_cons_self ..)
    refine ⟨trivial, ?_⟩
    simp only [gSet, body, dstart, dSeq, dIf, dAsg, dRet, dRetN, dNext, dDrop, dTest, dAnd, dOr, dNot, dAndV, dOrV, dNotV, dIfE, dOp, dUn, dC, dVar_e, dNil, dCons, dTup, dLst, dCall, dM1, dL1_e, dSl, oNo, oSo, gSet, gUn, gsCons, gsNil, dStI_e, dYes, ex_eq, ex_eq1, ex_bl, ex_str, ex_int, ex_ref, ex_tup, ex_cons, ex_lst1, ex_ins1, ex_ds, dFld_e, dStF_e, dMeth_e, split_1, qin_str, qnin_str, append_, add_ii, add_ss, add_tt, sub_ii, mul_ii, mul_si, div_ii, mod_ii, pow_ii, lt_ii, le_ii, gt_ii, ge_ii, neg_i, eq_ii, eq_ss, ne_ii, ne_ss, qix_tup, qix_cl, qix_str, at0, at1, at2, at3, qlen_tup, qlen_cl, qlen_str, toI_i, toI_b, toI_s, toS_i, toS_s, qsl_tup, qsl_cl, qsl_str, List.map_cons, List.map_nil, List.length_cons, List.length_nil, List.replicate, List.cons_append, List.nil_append, List.getElem?_cons_zero, List.getElem?_cons_succ, List.set_cons_zero, List.set_cons_succ, true_and, and_true, Nat.reduceAdd, Nat.reduceSub, decide_eq_true_eq, if_true]
    simp only [List.length_cons] at hl z
    refine ⟨ds[j], atI_nat (List.getElem?_eq_getElem hj), ds[j], atI_nat (List.getElem?_eq_getElem hj), hd _ (List.getElem_mem hj) _ _ ⟨by rw [List.length_replicate]; omega, h, .refl _, ?_⟩⟩
    rw [← List.replicate_succ']
    exact comp_alike hd r (n + 1) (fun y hy2 => hy y (List.mem_cons_of_mem _ hy2)) (by omega) (by rw [show n + 1 + r.length = n + (r.length + 1) by omega]; exact z)
theorem alike_ok {n : Nat} {v : D} (hp : Plain n v) : ∀ {K : Nat} {h : DH} {q : DQ} {x : DX}, n + 1 ≤ K → q (.bl true) h → (callD K).l_alike [v, v] h q x := by
  induction hp with
  | int n i =>
    intro K h q x hK k
    obtain ⟨jj, rfl⟩ : ∃ j, K = j + 1 := ⟨K - 1, by omega⟩
    rw [cd_l_alike]; simp only [tb_l_alike_1, tb_l_alike, body, dstart, dSeq, dIf, dAsg, dRet, dRetN, dNext, dDrop, dTest, dAnd, dOr, dNot, dAndV, dOrV, dNotV, dIfE, dOp, dUn, dC, dVar_e, dNil, dCons, dTup, dLst, dCall, dM1, dL1_e, dSl, oNo, oSo, gSet, gUn, gsCons, gsNil, dStI_e, dYes, ex_eq, ex_eq1, ex_bl, ex_str, ex_int, ex_ref, ex_tup, ex_cons, ex_lst1, ex_ins1, ex_ds, dFld_e, dStF_e, dMeth_e, split_1, qin_str, qnin_str, append_, add_ii, add_ss, add_tt, sub_ii, mul_ii, mul_si, div_ii, mod_ii, pow_ii, lt_ii, le_ii, gt_ii, ge_ii, neg_i, eq_ii, eq_ss, ne_ii, ne_ss, qix_tup, qix_cl, qix_str, at0, at1, at2, at3, qlen_tup, qlen_cl, qlen_str, toI_i, toI_b, toI_s, toS_i, toS_s, qsl_tup, qsl_cl, qsl_str, List.map_cons, List.map_nil, List.length_cons, List.length_nil, List.replicate, List.cons_append, List.nil_append, List.getElem?_cons_zero, List.getElem?_cons_succ, List.set_cons_zero, List.set_cons_succ, true_and, and_true, Nat.reduceAdd, Nat.reduceSub, decide_eq_true_eq, isi_ (show isa 2 (.int i) h = some false from rfl), isi_ (show isa 0 (.int i) h = some false from rfl), isi_ (show isa 1 (.int i) h = some true from rfl), isi_ (show isa 4 (.int i) h = some false from rfl), Bool.false_eq_true, if_false, if_true, Bool.not_false, decide_true]
    exact wkq0 k
  | str n z =>
    intro K h q x hK k
    obtain ⟨jj, rfl⟩ : ∃ j, K = j + 1 := ⟨K - 1, by omega⟩
    rw [cd_l_alike]; simp only [tb_l_alike_1, tb_l_alike, body, dstart, dSeq, dIf, dAsg, dRet, dRetN, dNext, dDrop, dTest, dAnd, dOr, dNot, dAndV, dOrV, dNotV, dIfE, dOp, dUn, dC, dVar_e, dNil, dCons, dTup, dLst, dCall, dM1, dL1_e, dSl, oNo, oSo, gSet, gUn, gsCons, gsNil, dStI_e, dYes, ex_eq, ex_eq1, ex_bl, ex_str, ex_int, ex_ref, ex_tup, ex_cons, ex_lst1, ex_ins1, ex_ds, dFld_e, dStF_e, dMeth_e, split_1, qin_str, qnin_str, append_, add_ii, add_ss, add_tt, sub_ii, mul_ii, mul_si, div_ii, mod_ii, pow_ii, lt_ii, le_ii, gt_ii, ge_ii, neg_i, eq_ii, eq_ss, ne_ii, ne_ss, qix_tup, qix_cl, qix_str, at0, at1, at2, at3, qlen_tup, qlen_cl, qlen_str, toI_i, toI_b, toI_s, toS_i, toS_s, qsl_tup, qsl_cl, qsl_str, List.map_cons, List.map_nil, List.length_cons, List.length_nil, List.replicate, List.cons_append, List.nil_append, List.getElem?_cons_zero, List.getElem?_cons_succ, List.set_cons_zero, List.set_cons_succ, true_and, and_true, Nat.reduceAdd, Nat.reduceSub, decide_eq_true_eq, isi_ (show isa 2 (.str z) h = some false from rfl), isi_ (show isa 0 (.str z) h = some true from rfl), Bool.false_eq_true, if_false, if_true, decide_true]
    exact wkq0 k
  | tup n ds hd hl ih =>
    intro K h q x hK k
    obtain ⟨jj, rfl⟩ : ∃ j, K = j + 1 := ⟨K - 1, by omega⟩
    rw [cd_l_alike]; simp only [tb_l_alike_1, tb_l_alike, body, dstart, dSeq, dIf, dAsg, dRet, dRetN, dNext, dDrop, dTest, dAnd, dOr, dNot, dAndV, dOrV, dNotV, dIfE, dOp, dUn, dC, dVar_e, dNil, dCons, dTup, dLst, dCall, dM1, dL1_e, dSl, oNo, oSo, gSet, gUn, gsCons, gsNil, dStI_e, dYes, ex_eq, ex_eq1, ex_bl, ex_str, ex_int, ex_ref, ex_tup, ex_cons, ex_lst1, ex_ins1, ex_ds, dFld_e, dStF_e, dMeth_e, split_1, qin_str, qnin_str, append_, add_ii, add_ss, add_tt, sub_ii, mul_ii, mul_si, div_ii, mod_ii, pow_ii, lt_ii, le_ii, gt_ii, ge_ii, neg_i, eq_ii, eq_ss, ne_ii, ne_ss, qix_tup, qix_cl, qix_str, at0, at1, at2, at3, qlen_tup, qlen_cl, qlen_str, toI_i, toI_b, toI_s, toS_i, toS_s, qsl_tup, qsl_cl, qsl_str, List.map_cons, List.map_nil, List.length_cons, List.length_nil, List.replicate, List.cons_append, List.nil_append, List.getElem?_cons_zero, List.getElem?_cons_succ, List.set_cons_zero, List.set_cons_succ, true_and, and_true, Nat.reduceAdd, Nat.reduceSub, decide_eq_true_eq, isi_ (show isa 2 (.tup ds) h = some true from rfl), Bool.false_eq_true, if_false, if_true, Bool.not_true, decide_true, dLc, ML.iRng1, dwipe]
    refine ⟨by omega, by omega, h, .refl _, comp_alike (C := callD jj) (fun d hd2 q x z => ih d hd2 (by omega) z) _ 0 (fun y hy => ?_) (by rw [rngD_len]; unfold sizeLine; omega) fun p hp => ?_⟩
    · unfold rngD at hy
      obtain ⟨i, hi, rfl⟩ := List.mem_map.mp hy
      have := List.mem_range.mp hi
      exact ⟨i, by simp, by omega⟩
    · refine ⟨p, _, _, rfl, dup_same, bls_true _, ?_⟩
      rw [show ∀ m, (List.replicate m true).all id = true from fun m => by rw [List.all_eq_true]; intro b hb; exact List.eq_of_mem_replicate hb]
      exact wkq (le_ne hp) k
theorem plain_nts {n : Nat} {xs : List Nat} (h : xs.length ≤ 5000) : Plain (n + 1) (.tup (nts xs)) := .tup n _ (fun d hd => by
  obtain ⟨a, _, rfl⟩ := List.mem_map.mp hd
  exact .int n _) (by unfold nts; rw [List.length_map]; exact h)
theorem sts_few {W : WT} {i : Nat} : ∀ {xs : List D} {rs : List Row} {sz : Nat}, StsF W i xs rs sz → xs.length ≤ rs.length
  | [], _, _, _ => Nat.zero_le _
  | _ :: _, _, _, ⟨_, _, _, _, _, _, _, _, _, _, _, _, rfl, h2, _⟩ => by
    have := sts_few h2
    simp only [List.length_cons, List.length_append]; omega
theorem plain_leaf {n : Nat} {w : D} {ws : List (List Nat)} (l : Leaf w ws) : Plain (n + 1) w := by
  rcases l with ⟨a, b, _, _, rfl, _⟩ | ⟨a, b, _, _, rfl, _⟩ | ⟨a, _, rfl, _⟩
  all_goals
    refine .tup n _ (fun d hd => ?_) (by simp)
    simp only [List.mem_cons, List.not_mem_nil, or_false] at hd
    rcases hd with rfl | hd
    · exact .str n _
    · first
      | (rcases hd with rfl | rfl <;> exact .int n _)
      | (subst hd; exact .int n _)
theorem plain_ch : ∀ (d : Nat) {i : Nat} {c : D} {rs : List Row} {sz : Nat}, ChF (WhR d) i c rs sz → rs.length ≤ 1000 → Plain (4 * d + 4) c := by
  intro d
  induction d with
  | zero =>
    intro i c rs sz h hl
    obtain ⟨nm, args, sts, ans, r1, rfl, hn, ha, hans, hs, rfl⟩ := h
    have l1 := ha.1
    have l2 := sts_few hs
    simp only [List.length_cons, List.length_append, List.length_nil] at hl
    have hsts : ∀ {xs : List D} {rs : List Row} {sz : Nat}, StsF (WhR 0) (i + 1) xs rs sz → ∀ y ∈ xs, Plain 2 y := by
      intro xs
      induction xs with
      | nil => intro _ _ _ y hy; cases hy
      | cons x r ih =>
        rintro rs sz ⟨n, held, w, ws, r1, s1, r2, s2, rfl, hn, hd, hw, rfl, h2, rfl⟩ y hy
        rcases List.mem_cons.mp hy with rfl | hy
        · have l3 := hd.1
          refine .tup 1 _ (fun z hz => ?_) (by simp)
          simp only [List.mem_cons, List.not_mem_nil, or_false] at hz
          rcases hz with rfl | rfl | rfl
          · exact .int 1 _
          · exact plain_nts (by omega)
          · exact plain_leaf hw.1
        · exact ih h2 y hy
    refine .tup 3 _ (fun z hz => ?_) (by simp)
    simp only [List.mem_cons, List.not_mem_nil, or_false] at hz
    rcases hz with rfl | rfl | rfl | rfl
    · exact .str 3 _
    · exact plain_nts (by omega)
    · exact .tup 2 _ (hsts hs) (by omega)
    · exact .int 3 _
  | succ d ihd =>
    intro i c rs sz h hl
    obtain ⟨nm, args, sts, ans, r1, rfl, hn, ha, hans, hs, rfl⟩ := h
    have l1 := ha.1
    have l2 := sts_few hs
    simp only [List.length_cons, List.length_append, List.length_nil] at hl
    have hsts : ∀ {xs : List D} {rs : List Row} {sz : Nat}, StsF (WhR (d + 1)) (i + 1) xs rs sz → rs.length ≤ 1000 → ∀ y ∈ xs, Plain (4 * (d + 1) + 2) y := by
      intro xs
      induction xs with
      | nil => intro _ _ _ _ y hy; cases hy
      | cons x r ih =>
        rintro rs sz ⟨n, held, w, ws, r1, s1, r2, s2, rfl, hn, hd, hw, rfl, h2, rfl⟩ hl y hy
        simp only [List.length_cons, List.length_append] at hl
        rcases List.mem_cons.mp hy with rfl | hy
        · have l3 := hd.1
          refine .tup (4 * (d + 1) + 1) _ (fun z hz => ?_) (by simp)
          simp only [List.mem_cons, List.not_mem_nil, or_false] at hz
          rcases hz with rfl | rfl | rfl
          · exact .int _ _
          · exact plain_nts (by omega)
          · rcases hw with ⟨l, _, _⟩ | ⟨c, rfl, _, hc⟩
            · exact plain_leaf l
            · refine .tup (4 * (d + 1)) _ (fun z hz => ?_) (by simp)
              simp only [List.mem_cons, List.not_mem_nil, or_false] at hz
              rcases hz with rfl | rfl
              · exact .str _ _
              · exact ihd hc (by omega)
        · exact ih h2 (by omega) y hy
    refine .tup (4 * (d + 1) + 3) _ (fun z hz => ?_) (by simp)
    simp only [List.mem_cons, List.not_mem_nil, or_false] at hz
    rcases hz with rfl | rfl | rfl | rfl
    · exact .str _ _
    · exact plain_nts (by omega)
    · exact .tup (4 * (d + 1) + 2) _ (hsts hs (by omega)) (by omega)
    · exact .int _ _
end k60

set_option Elab.async false
set_option linter.all false
set_option maxRecDepth 100000
set_option maxHeartbeats 1000000
namespace k60
open PySem PySem.Spec PyProof.Rows L2 ML
def SIX : List (List Nat) := [[98, 97, 99, 107], [99, 104, 97, 105, 110], [97, 115, 107], [98, 97, 99, 107, 115], [99, 104, 97, 105, 110, 115], [99, 97, 108, 108, 115]]
theorem six_ok : ∀ z ∈ SIX, NameW z := by
  have : ∀ z ∈ SIX, z ≠ [] ∧ z.length ≤ 8 ∧ (∀ c ∈ z, isLet c) ∧ z ∉ KL := by decide
  exact fun z hz => ⟨(this z hz).1, (this z hz).2.1, (this z hz).2.2.1, (this z hz).2.2.2⟩
theorem law_ok {K : Nat} (hK : 40 ≤ K) : Tells 63 (callD (K + 1)).law := by
  intro ns hns
  rw [cd_law]; simp only [tb_law, tb_law_7, tb_law_6, tb_law_5, tb_law_4, tb_law_3, tb_law_2, body, dstart, dSeq, dIf, dAsg, dRet, dRetN, dNext, dDrop, dTest, dAnd, dOr, dNot, dAndV, dOrV, dNotV, dIfE, dOp, dUn, dC, dVar_e, dNil, dCons, dTup, dLst, dCall, dM1, dL1_e, dSl, oNo, oSo, gSet, gUn, gsCons, gsNil, dStI_e, dYes, ex_eq, ex_eq1, ex_bl, ex_str, ex_int, ex_ref, ex_tup, ex_cons, ex_lst1, ex_ins1, ex_ds, dFld_e, dStF_e, dMeth_e, split_1, qin_str, qnin_str, append_, add_ii, add_ss, add_tt, sub_ii, mul_ii, mul_si, div_ii, mod_ii, pow_ii, lt_ii, le_ii, gt_ii, ge_ii, neg_i, eq_ii, eq_ss, ne_ii, ne_ss, qix_tup, qix_cl, qix_str, at0, at1, at2, at3, qlen_tup, qlen_cl, qlen_str, toI_i, toI_b, toI_s, toS_i, toS_s, qsl_tup, qsl_cl, qsl_str, List.map_cons, List.map_nil, List.length_cons, List.length_nil, List.replicate, List.cons_append, List.nil_append, List.getElem?_cons_zero, List.getElem?_cons_succ, List.set_cons_zero, List.set_cons_succ, true_and, and_true, Nat.reduceAdd, Nat.reduceSub, decide_eq_true_eq]
  obtain ⟨k2, rfl⟩ : ∃ k, K = k + 2 := ⟨K - 2, by omega⟩
  refine box_ok (by decide) fun m b hm hb => ?_
  (try simp only [body, dstart, dSeq, dIf, dAsg, dRet, dRetN, dNext, dDrop, dTest, dAnd, dOr, dNot, dAndV, dOrV, dNotV, dIfE, dOp, dUn, dC, dVar_e, dNil, dCons, dTup, dLst, dCall, dM1, dL1_e, dSl, oNo, oSo, gSet, gUn, gsCons, gsNil, dStI_e, dYes, ex_eq, ex_eq1, ex_bl, ex_str, ex_int, ex_ref, ex_tup, ex_cons, ex_lst1, ex_ins1, ex_ds, dFld_e, dStF_e, dMeth_e, split_1, qin_str, qnin_str, append_, add_ii, add_ss, add_tt, sub_ii, mul_ii, mul_si, div_ii, mod_ii, pow_ii, lt_ii, le_ii, gt_ii, ge_ii, neg_i, eq_ii, eq_ss, ne_ii, ne_ss, qix_tup, qix_cl, qix_str, at0, at1, at2, at3, qlen_tup, qlen_cl, qlen_str, toI_i, toI_b, toI_s, toS_i, toS_s, qsl_tup, qsl_cl, qsl_str, List.map_cons, List.map_nil, List.length_cons, List.length_nil, List.replicate, List.cons_append, List.nil_append, List.getElem?_cons_zero, List.getElem?_cons_succ, List.set_cons_zero, List.set_cons_succ, true_and, and_true, Nat.reduceAdd, Nat.reduceSub, decide_eq_true_eq])
  refine names_ok dup_same hm fun m1 p1 ws h1 hp1 hl hw => ?_
  rw [dup_dup]
  have n1 : b ≠ p1 := by simp only [dup] at hp1; grind
  refine ⟨by decide, fun p2 hp2 => ?_⟩
  have n2 : p2 ≠ b ∧ p2 ≠ p1 := by simp only [dup] at hp2; grind
  rw [show ([D.str [98, 97, 99, 107], D.str [99, 104, 97, 105, 110], D.str [97, 115, 107], D.str [98, 97, 99, 107, 115], D.str [99, 104, 97, 105, 110, 115], D.str [99, 97, 108, 108, 115]] : List D) = SIX.map .str from rfl,
    add_ll (ds := ws.map .str) (by simp only [dup]; grind) dup_same, ← List.map_append]
  refine ⟨by rw [List.length_map, List.length_map, hl]; decide, fun p3 hp3 => ?_⟩
  have n3 : p3 ≠ b ∧ p3 ≠ p1 ∧ p3 ≠ p2 := by simp only [dup] at hp3; grind
  (try simp only [body, dstart, dSeq, dIf, dAsg, dRet, dRetN, dNext, dDrop, dTest, dAnd, dOr, dNot, dAndV, dOrV, dNotV, dIfE, dOp, dUn, dC, dVar_e, dNil, dCons, dTup, dLst, dCall, dM1, dL1_e, dSl, oNo, oSo, gSet, gUn, gsCons, gsNil, dStI_e, dYes, ex_eq, ex_eq1, ex_bl, ex_str, ex_int, ex_ref, ex_tup, ex_cons, ex_lst1, ex_ins1, ex_ds, dFld_e, dStF_e, dMeth_e, split_1, qin_str, qnin_str, append_, add_ii, add_ss, add_tt, sub_ii, mul_ii, mul_si, div_ii, mod_ii, pow_ii, lt_ii, le_ii, gt_ii, ge_ii, neg_i, eq_ii, eq_ss, ne_ii, ne_ss, qix_tup, qix_cl, qix_str, at0, at1, at2, at3, qlen_tup, qlen_cl, qlen_str, toI_i, toI_b, toI_s, toS_i, toS_s, qsl_tup, qsl_cl, qsl_str, List.map_cons, List.map_nil, List.length_cons, List.length_nil, List.replicate, List.cons_append, List.nil_append, List.getElem?_cons_zero, List.getElem?_cons_succ, List.set_cons_zero, List.set_cons_succ, true_and, and_true, Nat.reduceAdd, Nat.reduceSub, decide_eq_true_eq])
  refine take_k (by omega) (by simp only [dup]; grind) h1 (by decide) (by decide) fun z m2 h2 z0 z1 => ?_
  obtain ⟨z, rfl⟩ := Int.eq_ofNat_of_zero_le z0
  refine ⟨by decide, fun sp hsp => ?_⟩
  have n4 : sp ≠ b ∧ sp ≠ p1 ∧ sp ≠ p2 ∧ sp ≠ p3 := by simp only [dup] at hsp; grind
  refine chain_all 5 (k2 + 2) (by omega) (names := ws ++ SIX) (z := z) (m := m2) (by simp only [dup]; grind) h2 (by simp only [dup]; grind) dup_same (Ne.symm n3.1) (Ne.symm n4.1) (Ne.symm n4.2.2.2) (by simp [SIX]) (by rw [List.length_append, hl]; decide)
    (fun w hw2 => (List.mem_append.mp hw2).elim (hw w) (six_ok w)) fun c sz m3 z3 h3 hc hz => ?_
  obtain ⟨rs, hch⟩ := hc 0
  obtain ⟨rok, rln⟩ := ch_good (i := 0) (by decide) (wh_good 5 1 (by decide)) hch
  have r900 : rs.length ≤ 900 := by omega
  have rne : rs ≠ [] := by
    obtain ⟨_, _, _, _, _, _, _, _, _, _, e⟩ := hch
    rw [e]; simp
  have pl := plain_ch 5 hch (by omega)
  generalize hpC _ b sp m3 z3 = H
  (try simp only [body, dstart, dSeq, dIf, dAsg, dRet, dRetN, dNext, dDrop, dTest, dAnd, dOr, dNot, dAndV, dOrV, dNotV, dIfE, dOp, dUn, dC, dVar_e, dNil, dCons, dTup, dLst, dCall, dM1, dL1_e, dSl, oNo, oSo, gSet, gUn, gsCons, gsNil, dStI_e, dYes, ex_eq, ex_eq1, ex_bl, ex_str, ex_int, ex_ref, ex_tup, ex_cons, ex_lst1, ex_ins1, ex_ds, dFld_e, dStF_e, dMeth_e, split_1, qin_str, qnin_str, append_, add_ii, add_ss, add_tt, sub_ii, mul_ii, mul_si, div_ii, mod_ii, pow_ii, lt_ii, le_ii, gt_ii, ge_ii, neg_i, eq_ii, eq_ss, ne_ii, ne_ss, qix_tup, qix_cl, qix_str, at0, at1, at2, at3, qlen_tup, qlen_cl, qlen_str, toI_i, toI_b, toI_s, toS_i, toS_s, qsl_tup, qsl_cl, qsl_str, List.map_cons, List.map_nil, List.length_cons, List.length_nil, List.replicate, List.cons_append, List.nil_append, List.getElem?_cons_zero, List.getElem?_cons_succ, List.set_cons_zero, List.set_cons_succ, true_and, and_true, Nat.reduceAdd, Nat.reduceSub, decide_eq_true_eq])
  refine l_rows_all 5 (k2 + 2) (by omega) (i := 0) hch rok (by omega) fun pr hpr => ?_
  (try simp only [body, dstart, dSeq, dIf, dAsg, dRet, dRetN, dNext, dDrop, dTest, dAnd, dOr, dNot, dAndV, dOrV, dNotV, dIfE, dOp, dUn, dC, dVar_e, dNil, dCons, dTup, dLst, dCall, dM1, dL1_e, dSl, oNo, oSo, gSet, gUn, gsCons, gsNil, dStI_e, dYes, ex_eq, ex_eq1, ex_bl, ex_str, ex_int, ex_ref, ex_tup, ex_cons, ex_lst1, ex_ins1, ex_ds, dFld_e, dStF_e, dMeth_e, split_1, qin_str, qnin_str, append_, add_ii, add_ss, add_tt, sub_ii, mul_ii, mul_si, div_ii, mod_ii, pow_ii, lt_ii, le_ii, gt_ii, ge_ii, neg_i, eq_ii, eq_ss, ne_ii, ne_ss, qix_tup, qix_cl, qix_str, at0, at1, at2, at3, qlen_tup, qlen_cl, qlen_str, toI_i, toI_b, toI_s, toS_i, toS_s, qsl_tup, qsl_cl, qsl_str, List.map_cons, List.map_nil, List.length_cons, List.length_nil, List.replicate, List.cons_append, List.nil_append, List.getElem?_cons_zero, List.getElem?_cons_succ, List.set_cons_zero, List.set_cons_succ, true_and, and_true, Nat.reduceAdd, Nat.reduceSub, decide_eq_true_eq])
  refine text_ok (by omega) hch rok (by omega) ?_
  simp only [body, dstart, dSeq, dIf, dAsg, dRet, dRetN, dNext, dDrop, dTest, dAnd, dOr, dNot, dAndV, dOrV, dNotV, dIfE, dOp, dUn, dC, dVar_e, dNil, dCons, dTup, dLst, dCall, dM1, dL1_e, dSl, oNo, oSo, gSet, gUn, gsCons, gsNil, dStI_e, dYes, ex_eq, ex_eq1, ex_bl, ex_str, ex_int, ex_ref, ex_tup, ex_cons, ex_lst1, ex_ins1, ex_ds, dFld_e, dStF_e, dMeth_e, split_1, qin_str, qnin_str, append_, add_ii, add_ss, add_tt, sub_ii, mul_ii, mul_si, div_ii, mod_ii, pow_ii, lt_ii, le_ii, gt_ii, ge_ii, neg_i, eq_ii, eq_ss, ne_ii, ne_ss, qix_tup, qix_cl, qix_str, at0, at1, at2, at3, qlen_tup, qlen_cl, qlen_str, toI_i, toI_b, toI_s, toS_i, toS_s, qsl_tup, qsl_cl, qsl_str, List.map_cons, List.map_nil, List.length_cons, List.length_nil, List.replicate, List.cons_append, List.nil_append, List.getElem?_cons_zero, List.getElem?_cons_succ, List.set_cons_zero, List.set_cons_succ, true_and, and_true, Nat.reduceAdd, Nat.reduceSub, decide_eq_true_eq, isi_ (show isa 0 (.str (textOf rs)) (dup H pr (.lst (txs rs))) = some true from rfl), Bool.not_true, Bool.false_eq_true, if_false]
  rw [join_ref (ys := rs.map rowT) (show dup H pr (.lst (txs rs)) pr = some (.lst ((rs.map rowT).map .str)) from dup_same)]
  refine ⟨rows_sum rok (by omega), ?_⟩
  (try simp only [body, dstart, dSeq, dIf, dAsg, dRet, dRetN, dNext, dDrop, dTest, dAnd, dOr, dNot, dAndV, dOrV, dNotV, dIfE, dOp, dUn, dC, dVar_e, dNil, dCons, dTup, dLst, dCall, dM1, dL1_e, dSl, oNo, oSo, gSet, gUn, gsCons, gsNil, dStI_e, dYes, ex_eq, ex_eq1, ex_bl, ex_str, ex_int, ex_ref, ex_tup, ex_cons, ex_lst1, ex_ins1, ex_ds, dFld_e, dStF_e, dMeth_e, split_1, qin_str, qnin_str, append_, add_ii, add_ss, add_tt, sub_ii, mul_ii, mul_si, div_ii, mod_ii, pow_ii, lt_ii, le_ii, gt_ii, ge_ii, neg_i, eq_ii, eq_ss, ne_ii, ne_ss, qix_tup, qix_cl, qix_str, at0, at1, at2, at3, qlen_tup, qlen_cl, qlen_str, toI_i, toI_b, toI_s, toS_i, toS_s, qsl_tup, qsl_cl, qsl_str, List.map_cons, List.map_nil, List.length_cons, List.length_nil, List.replicate, List.cons_append, List.nil_append, List.getElem?_cons_zero, List.getElem?_cons_succ, List.set_cons_zero, List.set_cons_succ, true_and, and_true, Nat.reduceAdd, Nat.reduceSub, decide_eq_true_eq])
  rw [show decide (textOf rs = TL.joinL [10] (rs.map rowT)) = true from decide_eq_true rfl]
  simp only [Bool.not_true, Bool.false_eq_true, if_false, dFor, ML.iRng2, body, dstart, dSeq, dIf, dAsg, dRet, dRetN, dNext, dDrop, dTest, dAnd, dOr, dNot, dAndV, dOrV, dNotV, dIfE, dOp, dUn, dC, dVar_e, dNil, dCons, dTup, dLst, dCall, dM1, dL1_e, dSl, oNo, oSo, gSet, gUn, gsCons, gsNil, dStI_e, dYes, ex_eq, ex_eq1, ex_bl, ex_str, ex_int, ex_ref, ex_tup, ex_cons, ex_lst1, ex_ins1, ex_ds, dFld_e, dStF_e, dMeth_e, split_1, qin_str, qnin_str, append_, add_ii, add_ss, add_tt, sub_ii, mul_ii, mul_si, div_ii, mod_ii, pow_ii, lt_ii, le_ii, gt_ii, ge_ii, neg_i, eq_ii, eq_ss, ne_ii, ne_ss, qix_tup, qix_cl, qix_str, at0, at1, at2, at3, qlen_tup, qlen_cl, qlen_str, toI_i, toI_b, toI_s, toS_i, toS_s, qsl_tup, qsl_cl, qsl_str, List.map_cons, List.map_nil, List.length_cons, List.length_nil, List.replicate, List.cons_append, List.nil_append, List.getElem?_cons_zero, List.getElem?_cons_succ, List.set_cons_zero, List.set_cons_succ, true_and, and_true, Nat.reduceAdd, Nat.reduceSub, decide_eq_true_eq]
  refine fun p6 hp6 => ?_
  rw [qlen_ref dup_same]
  (try simp only [body, dstart, dSeq, dIf, dAsg, dRet, dRetN, dNext, dDrop, dTest, dAnd, dOr, dNot, dAndV, dOrV, dNotV, dIfE, dOp, dUn, dC, dVar_e, dNil, dCons, dTup, dLst, dCall, dM1, dL1_e, dSl, oNo, oSo, gSet, gUn, gsCons, gsNil, dStI_e, dYes, ex_eq, ex_eq1, ex_bl, ex_str, ex_int, ex_ref, ex_tup, ex_cons, ex_lst1, ex_ins1, ex_ds, dFld_e, dStF_e, dMeth_e, split_1, qin_str, qnin_str, append_, add_ii, add_ss, add_tt, sub_ii, mul_ii, mul_si, div_ii, mod_ii, pow_ii, lt_ii, le_ii, gt_ii, ge_ii, neg_i, eq_ii, eq_ss, ne_ii, ne_ss, qix_tup, qix_cl, qix_str, at0, at1, at2, at3, qlen_tup, qlen_cl, qlen_str, toI_i, toI_b, toI_s, toS_i, toS_s, qsl_tup, qsl_cl, qsl_str, List.map_cons, List.map_nil, List.length_cons, List.length_nil, List.replicate, List.cons_append, List.nil_append, List.getElem?_cons_zero, List.getElem?_cons_succ, List.set_cons_zero, List.set_cons_succ, true_and, and_true, Nat.reduceAdd, Nat.reduceSub, decide_eq_true_eq])
  have lc : (cutD (ns.map D.int) (some 1) (some 6)).length ≤ 63 := by
    unfold ML.cutD
    rw [List.length_take, List.length_drop, List.length_map]; omega
  have e6 : pr ≠ p6 := free_ne dup_same hp6
  have final : ∀ hh, (callD (k2 + 2)).read_book [.str (textOf rs)] hh (fun x h1 => (callD (k2 + 2)).l_alike [x, c] h1 (fun x h' => ∃ k, x = .bl k ∧ if k = true then (callD (k2 + 2)).book_text [c] h' (fun x h1 => dEq x (.str (textOf rs)) h1 fun x h1 => wkQ (fun d _ => d = .bl true) x h1) (fun c fs h' => wkX (fun _ _ _ => False) c fs h') else wkQ (fun d _ => d = .bl true) (.bl false) h') (fun c fs h' => wkX (fun _ _ _ => False) c fs h')) (fun c fs h' => wkX (fun _ _ _ => False) c fs h') := by
    intro hh
    refine read_ok (d := 5) (by omega) (linesOf_rows rne rok (by omega)) hch (by omega) (alike_ok pl (by omega) ⟨true, rfl, ?_⟩)
    rw [if_pos rfl]
    refine text_ok (by omega) hch rok (by omega) ?_
    simp only [body, dstart, dSeq, dIf, dAsg, dRet, dRetN, dNext, dDrop, dTest, dAnd, dOr, dNot, dAndV, dOrV, dNotV, dIfE, dOp, dUn, dC, dVar_e, dNil, dCons, dTup, dLst, dCall, dM1, dL1_e, dSl, oNo, oSo, gSet, gUn, gsCons, gsNil, dStI_e, dYes, ex_eq, ex_eq1, ex_bl, ex_str, ex_int, ex_ref, ex_tup, ex_cons, ex_lst1, ex_ins1, ex_ds, dFld_e, dStF_e, dMeth_e, split_1, qin_str, qnin_str, append_, add_ii, add_ss, add_tt, sub_ii, mul_ii, mul_si, div_ii, mod_ii, pow_ii, lt_ii, le_ii, gt_ii, ge_ii, neg_i, eq_ii, eq_ss, ne_ii, ne_ss, qix_tup, qix_cl, qix_str, at0, at1, at2, at3, qlen_tup, qlen_cl, qlen_str, toI_i, toI_b, toI_s, toS_i, toS_s, qsl_tup, qsl_cl, qsl_str, List.map_cons, List.map_nil, List.length_cons, List.length_nil, List.replicate, List.cons_append, List.nil_append, List.getElem?_cons_zero, List.getElem?_cons_succ, List.set_cons_zero, List.set_cons_succ, true_and, and_true, Nat.reduceAdd, Nat.reduceSub, decide_eq_true_eq, decide_true]
    exact wkq0 rfl
  refine ⟨1, _, rfl, rfl, ⟨by omega, by omega, by omega, by omega⟩, wk1 (h' := dup H pr (.lst (txs rs))) (le_ne hp6) (for_ind (fun rem s hh => ∃ v6, hh pr = some (.lst (txs rs)) ∧ (∀ y ∈ rem, ∃ j : Int, y = .int j ∧ 0 ≤ j) ∧
    s = [some (.cl (ns.map .int)), some (.ref b), some (.ref p3), some c, some (.ref pr), some (.str (textOf rs)), v6]) ?_ ?_ _ _ _ ⟨_, dup_same, ?_, rfl⟩)⟩
  · rintro s hh ⟨v6, _, _, rfl⟩
    refine ⟨trivial, ?_⟩
    simp only [body, dstart, dSeq, dIf, dAsg, dRet, dRetN, dNext, dDrop, dTest, dAnd, dOr, dNot, dAndV, dOrV, dNotV, dIfE, dOp, dUn, dC, dVar_e, dNil, dCons, dTup, dLst, dCall, dM1, dL1_e, dSl, oNo, oSo, gSet, gUn, gsCons, gsNil, dStI_e, dYes, ex_eq, ex_eq1, ex_bl, ex_str, ex_int, ex_ref, ex_tup, ex_cons, ex_lst1, ex_ins1, ex_ds, dFld_e, dStF_e, dMeth_e, split_1, qin_str, qnin_str, append_, add_ii, add_ss, add_tt, sub_ii, mul_ii, mul_si, div_ii, mod_ii, pow_ii, lt_ii, le_ii, gt_ii, ge_ii, neg_i, eq_ii, eq_ss, ne_ii, ne_ss, qix_tup, qix_cl, qix_str, at0, at1, at2, at3, qlen_tup, qlen_cl, qlen_str, toI_i, toI_b, toI_s, toS_i, toS_s, qsl_tup, qsl_cl, qsl_str, List.map_cons, List.map_nil, List.length_cons, List.length_nil, List.replicate, List.cons_append, List.nil_append, List.getElem?_cons_zero, List.getElem?_cons_succ, List.set_cons_zero, List.set_cons_succ, true_and, and_true, Nat.reduceAdd, Nat.reduceSub, decide_eq_true_eq]
    exact final hh
  · rintro y rem s hh ⟨v6, epr, hy, rfl⟩
    obtain ⟨j, rfl, j0⟩ := hy y (List.mem_cons_self ..)
    refine ⟨trivial, fun F hF => ?_⟩
    simp only [gSet, tb_law_1, body, dstart, dSeq, dIf, dAsg, dRet, dRetN, dNext, dDrop, dTest, dAnd, dOr, dNot, dAndV, dOrV, dNotV, dIfE, dOp, dUn, dC, dVar_e, dNil, dCons, dTup, dLst, dCall, dM1, dL1_e, dSl, oNo, oSo, gSet, gUn, gsCons, gsNil, dStI_e, dYes, ex_eq, ex_eq1, ex_bl, ex_str, ex_int, ex_ref, ex_tup, ex_cons, ex_lst1, ex_ins1, ex_ds, dFld_e, dStF_e, dMeth_e, split_1, qin_str, qnin_str, append_, add_ii, add_ss, add_tt, sub_ii, mul_ii, mul_si, div_ii, mod_ii, pow_ii, lt_ii, le_ii, gt_ii, ge_ii, neg_i, eq_ii, eq_ss, ne_ii, ne_ss, qix_tup, qix_cl, qix_str, at0, at1, at2, at3, qlen_tup, qlen_cl, qlen_str, toI_i, toI_b, toI_s, toS_i, toS_s, qsl_tup, qsl_cl, qsl_str, List.map_cons, List.map_nil, List.length_cons, List.length_nil, List.replicate, List.cons_append, List.nil_append, List.getElem?_cons_zero, List.getElem?_cons_succ, List.set_cons_zero, List.set_cons_succ, true_and, and_true, Nat.reduceAdd, Nat.reduceSub, decide_eq_true_eq]
    refine box_ok j0 fun m4 b4 hm4 hb4 => ?_
    have nb : pr ≠ b4 := free_ne epr hb4
    refine loose_ok (by omega) dup_same hm4 (by rw [dup_ne nb]; exact epr) (Ne.symm nb) rne rok r900 fun m5 ls h5 hls => ?_
    refine read_ok (d := 5) (by omega) hls hch (by omega) (alike_ok pl (by omega) ?_)
    simp only [body, dstart, dSeq, dIf, dAsg, dRet, dRetN, dNext, dDrop, dTest, dAnd, dOr, dNot, dAndV, dOrV, dNotV, dIfE, dOp, dUn, dC, dVar_e, dNil, dCons, dTup, dLst, dCall, dM1, dL1_e, dSl, oNo, oSo, gSet, gUn, gsCons, gsNil, dStI_e, dYes, ex_eq, ex_eq1, ex_bl, ex_str, ex_int, ex_ref, ex_tup, ex_cons, ex_lst1, ex_ins1, ex_ds, dFld_e, dStF_e, dMeth_e, split_1, qin_str, qnin_str, append_, add_ii, add_ss, add_tt, sub_ii, mul_ii, mul_si, div_ii, mod_ii, pow_ii, lt_ii, le_ii, gt_ii, ge_ii, neg_i, eq_ii, eq_ss, ne_ii, ne_ss, qix_tup, qix_cl, qix_str, at0, at1, at2, at3, qlen_tup, qlen_cl, qlen_str, toI_i, toI_b, toI_s, toS_i, toS_s, qsl_tup, qsl_cl, qsl_str, List.map_cons, List.map_nil, List.length_cons, List.length_nil, List.replicate, List.cons_append, List.nil_append, List.getElem?_cons_zero, List.getElem?_cons_succ, List.set_cons_zero, List.set_cons_succ, true_and, and_true, Nat.reduceAdd, Nat.reduceSub, decide_eq_true_eq, Bool.not_true, Bool.false_eq_true, if_false]
    refine hF _ _ _ hh ⟨rfl, fun _ _ e => e⟩ ?_ ⟨_, epr, fun y h => hy y (List.mem_cons_of_mem _ h), rfl⟩
    rw [dup_dup]
    exact le_ne hb4
  · intro y hy
    unfold rngD at hy
    obtain ⟨i, _, rfl⟩ := List.mem_map.mp hy
    exact ⟨_, rfl, by omega⟩
end k60

namespace k60
theorem holds_all : PySem.Challenge.rw_againbook_k60_books_written_and_read.Holds := holds (law_ok (by decide))
end k60

theorem PySem.Challenge.cw_againbook_k60_books_written_and_read_holds : PySem.Challenge.rw_againbook_k60_books_written_and_read.Holds :=
  k60.holds_all
