import PyProof.Rows.All
import HandS.ForMost
import HandS.Exc
import HandS.ExcOwn
import HandS.TryOnly
import HandS.TryMany
import HandS.WordsExc
import HandS.TupAny
import HandS.Deep
import HandS.CallSlots
import KE.KExcSuper
import HandS.ExcInit
import HandS.ExcField
import HandS.HeadHook2
import HandS.Strs
import HandS.SetTxtIn
import HandS.IsInst
import HandS.StrMore
import HandS.Text
import PyProof.Rows.StrFirst
import KE.GoesMore
import HandS.DictComp
import HandS.Head0
import HandS.Head1
import HandS.Head2
import HandS.HeadEnd
import HandS.HeadHook1
import HandS.OwnEq
import KE.KOpsOwn
import PyProof.InstNe
import PyProof.ListStr
import HandS.Style
import KE.KRevSl
import PySem.Challenge.RW_endrows_k02_orders_made
section
set_option Elab.async false
set_option linter.all false
set_option maxRecDepth 100000
set_option maxHeartbeats 2000000
namespace DL
open PySem PySem.Spec PyProof.Rows L2

/-! ## plain data -/
inductive Dt where
  | non | bl (b : Bool) | int (i : Int) | str (s : List Nat) | tup (ds : List Dt) | lst (ds : List Dt)
  
  /-- a dict; its keys: 0 ints and texts, 1 tuples of them -/
  | dic (kd : Nat) (kvs : List (Dt × Dt))
  | obj (c : Str) (fs : List (Str × Dt))
  /-- the script -/
  | scr (ns : List Int)
/-- frozen, or owned by a slot -/
inductive Tr where
  | v (d : Dt) | o (d : Dt)
def Tr.fz : Tr → Dt | .v d => d | .o d => d
inductive Ow where
  | free | other | mine (i : Nat)
  deriving DecidableEq
abbrev Rho := List (Option Tr)
abbrev Dx := Str × List (Str × Dt)
abbrev Own := Addr → Ow
def mkS (s : List Nat) : Str := ⟨s.toArray⟩
def keyOf : Dt → Option Key
  | .int i => some (.inl i) | .str s => some (.inr (mkS s)) | _ => none
def keysOf : List Dt → Option (List Key)
  | [] => some []
  | d :: r => match keyOf d, keysOf r with | some k, some ks => some (k :: ks) | _, _ => none
def tkeyOf : Dt → Option (List Key)
  | .tup ds => keysOf ds | _ => none
def h0 : Hp := fun _ => none

/-! ## what holds data -/
section
variable (K : PySem.W.Frag) (mg : Str → Option Value) (own : Own) (H : Hp)
def FzL (a : Addr) (xs : List V) : Prop := (own a = .free ∧ Rd H a (.lst xs)) ∨ SqL K h0 a xs
mutual
def RepD : Dt → V → Prop
  | .non, x => x = .non
  | .bl b, x => x = .bl b
  | .int i, x => x = .int i
  | .str s, x => x = .str (mkS s)
  | .scr ns, x => ∃ a, x = .ref a ∧ FzL K own H a (ns.map V.int)
  | .tup ds, x => ∃ a xs, x = .ref a ∧ own a = .free ∧ H a = some (.tup xs) ∧ RepL ds xs
  | .lst ds, x => ∃ a xs, x = .ref a ∧ own a = .free ∧ H a = some (.lst xs) ∧ RepL ds xs
  | .dic kd kvs, x => ∃ a, x = .ref a ∧ own a = .free ∧
      ((kd = 0 ∧ ∃ q : List (Key × V), H a = some (.dK q) ∧ (kvs.map fun p => keyOf p.1) = (q.map fun p => some p.1) ∧ RepP kvs (q.map (·.2))) ∨
        (kd = 1 ∧ ∃ q : List (List Key × V), H a = some (.dT q) ∧ (kvs.map fun p => tkeyOf p.1) = (q.map fun p => some p.1) ∧ RepP kvs (q.map (·.2))))
  | .obj c fs, x => ∃ a C dx q, x = .ref a ∧ own a = .free ∧ mg c = some (.ref C) ∧ H a = some (.ins C dx q) ∧ (fs.map (·.1)) = (q.map (·.1)) ∧ RepF fs (q.map (·.2))
def RepL : List Dt → List V → Prop
  | [], xs => xs = []
  | d :: ds, xs => ∃ x r, xs = x :: r ∧ RepD d x ∧ RepL ds r
def RepP : List (Dt × Dt) → List V → Prop
  | [], xs => xs = []
  | p :: ds, xs => ∃ x r, xs = x :: r ∧ RepD p.2 x ∧ RepP ds r
def RepF : List (Str × Dt) → List V → Prop
  | [], xs => xs = []
  | p :: ds, xs => ∃ x r, xs = x :: r ∧ RepD p.2 x ∧ RepF ds r
end
/-- the object at a is the container d, its parts frozen -/
def RepO : Dt → Addr → Prop
  | .lst ds, a => ∃ xs, H a = some (.lst xs) ∧ RepL K mg own H ds xs
  | .dic kd kvs, a => (kd = 0 ∧ ∃ q : List (Key × V), H a = some (.dK q) ∧ (kvs.map fun p => keyOf p.1) = (q.map fun p => some p.1) ∧ RepP K mg own H kvs (q.map (·.2))) ∨
        (kd = 1 ∧ ∃ q : List (List Key × V), H a = some (.dT q) ∧ (kvs.map fun p => tkeyOf p.1) = (q.map fun p => some p.1) ∧ RepP K mg own H kvs (q.map (·.2)))
  | .obj c fs, a => ∃ C dx q, mg c = some (.ref C) ∧ H a = some (.ins C dx q) ∧ (fs.map (·.1)) = (q.map (·.1)) ∧ RepF K mg own H fs (q.map (·.2))
  | _, _ => False
def RepT (i : Nat) : Tr → V → Prop
  | .v d, x => RepD K mg own H d x
  | .o d, x => ∃ a, x = .ref a ∧ own a = .mine i ∧ RepO K mg own H d a
/-- an exception -/
def RepX (e : Dx) (cls : Value) (d : Option Addr) : Prop :=
  ∃ C, mg e.1 = some (.ref C) ∧ cls = .ref C ∧ ((e.2 = [] ∧ d = none) ∨ ∃ dd q, d = some dd ∧ own dd = .free ∧ H dd = some (.xd q) ∧ ∀ f y, e.2.lookup f = some y → ∃ x, q.lookup f = some x ∧ RepD K mg own H y x)
end

/-- what is frozen stays -/
structure Fre (own : Own) (H : Hp) (own' : Own) (H' : Hp) : Prop where
  keep : ∀ b o, H b = some o → own b = .free → H' b = some o ∧ own' b = .free
structure Good (own : Own) (H : Hp) (own' : Own) (H' : Hp) : Prop where
  keep : ∀ b o, H b = some o → own b = .free ∨ own b = .other → H' b = some o ∧ own' b = own b
  ex : ∀ b o, H b = some o → ∃ o', H' b = some o'
/-- nothing is changed, new objects are free -/
structure Ext (own : Own) (H : Hp) (own' : Own) (H' : Hp) : Prop where
  keep : ∀ b o, H b = some o → H' b = some o ∧ own' b = own b
  nw : ∀ b i o, own' b = .mine i → H' b = some o → own b = .mine i ∧ H b = some o
section
variable {own own1 own2 : Own} {H H1 H2 : Hp}
theorem Good.fre (g : Good own H own1 H1) : Fre own H own1 H1 := ⟨fun b o h f => by
  obtain ⟨h', e⟩ := g.keep b o h (.inl f)
  exact ⟨h', e.trans f⟩⟩
theorem Good.refl : Good own H own H := ⟨fun _ _ h _ => ⟨h, rfl⟩, fun _ o h => ⟨o, h⟩⟩
theorem Good.trans (a : Good own H own1 H1) (b : Good own1 H1 own2 H2) : Good own H own2 H2 :=
  ⟨fun c o h l => by
    obtain ⟨h1, e1⟩ := a.keep c o h l
    obtain ⟨h2, e2⟩ := b.keep c o h1 (by rw [e1]; exact l)
    exact ⟨h2, e2.trans e1⟩, fun c o h => by
    obtain ⟨o1, h1⟩ := a.ex c o h
    exact b.ex c o1 h1⟩
theorem Ext.good (a : Ext own H own1 H1) : Good own H own1 H1 := ⟨fun b o h _ => a.keep b o h, fun b o h => ⟨o, (a.keep b o h).1⟩⟩
theorem Ext.refl : Ext own H own H := ⟨fun _ _ h => ⟨h, rfl⟩, fun _ _ _ h1 h2 => ⟨h1, h2⟩⟩
theorem Ext.trans (a : Ext own H own1 H1) (b : Ext own1 H1 own2 H2) : Ext own H own2 H2 :=
  ⟨fun c o h => by
    obtain ⟨h1, e1⟩ := a.keep c o h
    obtain ⟨h2, e2⟩ := b.keep c o h1
    exact ⟨h2, e2.trans e1⟩, fun c i o h1 h2 => by
    obtain ⟨q1, q2⟩ := b.nw c i o h1 h2
    exact a.nw c i o q1 q2⟩
def setO (own : Own) (a : Addr) (l : Ow) : Own := fun b => if b = a then l else own b
theorem setO_same {a : Addr} {l : Ow} : setO own a l a = l := if_pos rfl
theorem setO_ne {a b : Addr} {l : Ow} (h : b ≠ a) : setO own a l b = own b := if_neg h
/-- a new object, labelled l (not mine) -/
theorem Ext.new {p : Addr} {o : HO} {l : Ow} (h : H p = none) (hl : ∀ i, l ≠ .mine i) : Ext own H (setO own p l) (upd H p o) :=
  ⟨fun b u e => by
    have hb : b ≠ p := fun z => by rw [z, h] at e; cases e
    exact ⟨by rw [upd_ne hb]; exact e, setO_ne hb⟩, fun b i u e1 e2 => by
    by_cases hb : b = p
    · rw [hb, setO_same] at e1; exact absurd e1 (hl i)
    · rw [setO_ne hb] at e1; rw [upd_ne hb] at e2; exact ⟨e1, e2⟩⟩
theorem Good.none (a : Good own H own1 H1) {b : Addr} (h : H1 b = none) : H b = none := by
  cases e : H b with
  | none => rfl
  | some o =>
    obtain ⟨o', e'⟩ := a.ex b o e
    rw [e'] at h; cases h
end
section
variable {K : PySem.W.Frag} {mg : Str → Option Value} {own own' : Own} {H H' : Hp}
theorem rd_keep (g : Fre own H own' H') {a : Addr} {u : HO} (f : own a = .free) (h : Rd H a u) : Rd H' a u ∧ own' a = .free := by
  rcases h with h | ⟨o, h⟩
  · obtain ⟨h', e⟩ := g.keep a _ h f
    exact ⟨.inl h', e⟩
  · obtain ⟨h', e⟩ := g.keep a _ h f
    exact ⟨.inr ⟨o, h'⟩, e⟩
theorem FzL.mono (g : Fre own H own' H') {a : Addr} {xs : List V} (h : FzL K own H a xs) : FzL K own' H' a xs := by
  rcases h with ⟨f, h⟩ | h
  · obtain ⟨h', f'⟩ := rd_keep g f h
    exact .inl ⟨f', h'⟩
  · exact .inr h
theorem FzL.sq {a : Addr} {xs : List V} (h : FzL K own H a xs) : SqL K H a xs := by
  rcases h with ⟨_, h⟩ | h
  · exact .inl h
  · rcases h with (h | ⟨o, h⟩) | h
    · cases h
    · cases h
    · exact .inr h
mutual
theorem RepD.mono (g : Fre own H own' H') : ∀ {d : Dt} {x : V}, RepD K mg own H d x → RepD K mg own' H' d x
  | .non, _, h => by simpa only [RepD] using h
  | .bl _, _, h => by simpa only [RepD] using h
  | .int _, _, h => by simpa only [RepD] using h
  | .str _, _, h => by simpa only [RepD] using h
  | .scr ns, x, h => by
    simp only [RepD] at h ⊢
    obtain ⟨a, e, f⟩ := h
    exact ⟨a, e, f.mono g⟩
  | .tup ds, x, h => by
    simp only [RepD] at h ⊢
    obtain ⟨a, xs, e, f, k, r⟩ := h
    obtain ⟨k', f'⟩ := g.keep a _ k f
    exact ⟨a, xs, e, f', k', RepL.mono g r⟩
  | .lst ds, x, h => by
    simp only [RepD] at h ⊢
    obtain ⟨a, xs, e, f, k, r⟩ := h
    obtain ⟨k', f'⟩ := g.keep a _ k f
    exact ⟨a, xs, e, f', k', RepL.mono g r⟩
  | .dic kd kvs, x, h => by
    simp only [RepD] at h ⊢
    obtain ⟨a, e, f, r⟩ := h
    rcases r with ⟨z, q, r, k, p⟩ | ⟨z, q, r, k, p⟩
    · obtain ⟨r', f'⟩ := g.keep a _ r f
      exact ⟨a, e, f', .inl ⟨z, q, r', k, RepP.mono g p⟩⟩
    · obtain ⟨r', f'⟩ := g.keep a _ r f
      exact ⟨a, e, f', .inr ⟨z, q, r', k, RepP.mono g p⟩⟩
  | .obj c fs, x, h => by
    simp only [RepD] at h ⊢
    obtain ⟨a, C, dx, q, e, f, m, r, k, p⟩ := h
    obtain ⟨r', f'⟩ := g.keep a _ r f
    exact ⟨a, C, dx, q, e, f', m, r', k, RepF.mono g p⟩
theorem RepL.mono (g : Fre own H own' H') : ∀ {ds : List Dt} {xs : List V}, RepL K mg own H ds xs → RepL K mg own' H' ds xs
  | [], _, h => by simpa only [RepL] using h
  | d :: ds, xs, h => by
    simp only [RepL] at h ⊢
    obtain ⟨x, r, e, h1, h2⟩ := h
    exact ⟨x, r, e, RepD.mono g h1, RepL.mono g h2⟩
theorem RepP.mono (g : Fre own H own' H') : ∀ {ds : List (Dt × Dt)} {xs : List V}, RepP K mg own H ds xs → RepP K mg own' H' ds xs
  | [], _, h => by simpa only [RepP] using h
  | (k, d) :: ds, xs, h => by
    simp only [RepP] at h ⊢
    obtain ⟨x, r, e, h1, h2⟩ := h
    exact ⟨x, r, e, RepD.mono g h1, RepP.mono g h2⟩
theorem RepF.mono (g : Fre own H own' H') : ∀ {ds : List (Str × Dt)} {xs : List V}, RepF K mg own H ds xs → RepF K mg own' H' ds xs
  | [], _, h => by simpa only [RepF] using h
  | (k, d) :: ds, xs, h => by
    simp only [RepF] at h ⊢
    obtain ⟨x, r, e, h1, h2⟩ := h
    exact ⟨x, r, e, RepD.mono g h1, RepF.mono g h2⟩
end
theorem RepX.mono (g : Fre own H own' H') {e : Dx} {cls : Value} {d : Option Addr} (h : RepX K mg own H e cls d) : RepX K mg own' H' e cls d := by
  obtain ⟨C, m, rfl, h⟩ := h
  refine ⟨C, m, rfl, ?_⟩
  rcases h with h | ⟨dd, q, e1, f, h1, h2⟩
  · exact .inl h
  · obtain ⟨h1', f'⟩ := g.keep dd _ h1 f
    refine .inr ⟨dd, q, e1, f', h1', fun z y e => ?_⟩
    obtain ⟨x, e3, r⟩ := h2 z y e
    exact ⟨x, e3, r.mono g⟩
/-- a container is kept where its object is -/
theorem RepO.mono (g : Fre own H own' H') : ∀ {d : Dt} {a : Addr}, (∀ o, H a = some o → H' a = some o) → RepO K mg own H d a → RepO K mg own' H' d a
  | .non, _, _, h => by simp only [RepO] at h
  | .bl _, _, _, h => by simp only [RepO] at h
  | .int _, _, _, h => by simp only [RepO] at h
  | .str _, _, _, h => by simp only [RepO] at h
  | .scr _, _, _, h => by simp only [RepO] at h
  | .tup _, _, _, h => by simp only [RepO] at h
  | .lst ds, a, k, h => by
    simp only [RepO] at h ⊢
    obtain ⟨xs, e, r⟩ := h
    exact ⟨xs, k _ e, r.mono g⟩
  | .dic kd kvs, a, k, h => by
    simp only [RepO] at h ⊢
    rcases h with ⟨z, q, e, r, p⟩ | ⟨z, q, e, r, p⟩
    · exact .inl ⟨z, q, k _ e, r, p.mono g⟩
    · exact .inr ⟨z, q, k _ e, r, p.mono g⟩
  | .obj c fs, a, k, h => by
    simp only [RepO] at h ⊢
    obtain ⟨C, dx, q, m, e, r, p⟩ := h
    exact ⟨C, dx, q, m, k _ e, r, p.mono g⟩
/-- frozen by the label -/
theorem RepO.free : ∀ {d : Dt} {a : Addr}, own a = .free → RepO K mg own H d a → RepD K mg own H d (.ref a)
  | .non, _, _, h => by simp only [RepO] at h
  | .bl _, _, _, h => by simp only [RepO] at h
  | .int _, _, _, h => by simp only [RepO] at h
  | .str _, _, _, h => by simp only [RepO] at h
  | .scr _, _, _, h => by simp only [RepO] at h
  | .tup _, _, _, h => by simp only [RepO] at h
  | .lst ds, a, f, h => by
    simp only [RepO, RepD] at h ⊢
    obtain ⟨xs, e, r⟩ := h
    exact ⟨a, xs, rfl, f, e, r⟩
  | .dic kd kvs, a, f, h => by
    simp only [RepO, RepD] at h ⊢
    exact ⟨a, rfl, f, h⟩
  | .obj c fs, a, f, h => by
    simp only [RepO, RepD] at h ⊢
    obtain ⟨C, dx, q, m, e, r, p⟩ := h
    exact ⟨a, C, dx, q, rfl, f, m, e, r, p⟩
theorem RepO.there : ∀ {d : Dt} {a : Addr}, RepO K mg own H d a → ∃ o, H a = some o
  | .non, _, h => by simp only [RepO] at h
  | .bl _, _, h => by simp only [RepO] at h
  | .int _, _, h => by simp only [RepO] at h
  | .str _, _, h => by simp only [RepO] at h
  | .scr _, _, h => by simp only [RepO] at h
  | .tup _, _, h => by simp only [RepO] at h
  | .lst ds, a, h => by
    simp only [RepO] at h
    obtain ⟨xs, e, r⟩ := h
    exact ⟨_, e⟩
  | .dic kd kvs, a, h => by
    simp only [RepO] at h
    rcases h with ⟨z, q, e, r, p⟩ | ⟨z, q, e, r, p⟩ <;> exact ⟨_, e⟩
  | .obj c fs, a, h => by
    simp only [RepO] at h
    obtain ⟨C, dx, q, m, e, r, p⟩ := h
    exact ⟨_, e⟩
end
/-! ## lists of data -/
section
variable {K : PySem.W.Frag} {mg : Str → Option Value} {own : Own} {H : Hp}
theorem RepL.length : ∀ {ds : List Dt} {xs : List V}, RepL K mg own H ds xs → xs.length = ds.length
  | [], xs, h => by simp only [RepL] at h; rw [h]; rfl
  | d :: ds, xs, h => by
    simp only [RepL] at h
    obtain ⟨x, r, e, _, h2⟩ := h
    rw [e, List.length_cons, List.length_cons, RepL.length h2]
theorem RepL.get : ∀ {ds : List Dt} {xs : List V} {i : Nat} {d : Dt}, RepL K mg own H ds xs → ds[i]? = some d → ∃ x, xs[i]? = some x ∧ RepD K mg own H d x
  | [], _, _, _, _, e => by simp at e
  | d :: ds, xs, 0, d', h, e => by
    simp only [RepL] at h
    obtain ⟨x, r, e1, h1, _⟩ := h
    have e2 : d = d' := by simpa using e
    subst e2
    exact ⟨x, by rw [e1]; rfl, h1⟩
  | d :: ds, xs, i + 1, d', h, e => by
    simp only [RepL] at h
    obtain ⟨x, r, e1, _, h2⟩ := h
    obtain ⟨y, e2, h3⟩ := RepL.get (i := i) h2 (by simpa using e)
    exact ⟨y, by rw [e1]; simpa using e2, h3⟩
theorem RepL.at : ∀ {ds : List Dt} {xs : List V} {i : Nat} {x : V}, RepL K mg own H ds xs → xs[i]? = some x → ∃ d, ds[i]? = some d ∧ RepD K mg own H d x := fun {ds xs i x} h e => by
  have hi : i < ds.length := by
    rw [← h.length]
    exact (List.getElem?_eq_some_iff.mp e).1
  obtain ⟨y, e2, h3⟩ := h.get (List.getElem?_eq_getElem hi)
  rw [e] at e2
  cases e2
  exact ⟨_, List.getElem?_eq_getElem hi, h3⟩
theorem RepL.app : ∀ {ds : List Dt} {xs : List V} {es : List Dt} {ys : List V}, RepL K mg own H ds xs → RepL K mg own H es ys → RepL K mg own H (ds ++ es) (xs ++ ys)
  | [], xs, _, _, h, h' => by
    simp only [RepL] at h
    rw [h]
    exact h'
  | d :: ds, xs, es, ys, h, h' => by
    simp only [RepL] at h
    obtain ⟨x, r, e, h1, h2⟩ := h
    rw [e]
    show RepL K mg own H (d :: (ds ++ es)) (x :: (r ++ ys))
    simp only [RepL]
    exact ⟨x, _, rfl, h1, RepL.app h2 h'⟩
theorem RepL.one {d : Dt} {x : V} (h : RepD K mg own H d x) : RepL K mg own H [d] [x] := by
  simp only [RepL]
  exact ⟨x, [], rfl, h, rfl⟩
theorem RepL.nil : RepL K mg own H [] [] := by simp only [RepL]
theorem RepL.cons {d : Dt} {x : V} {ds : List Dt} {xs : List V} (h : RepD K mg own H d x) (r : RepL K mg own H ds xs) : RepL K mg own H (d :: ds) (x :: xs) := by
  simp only [RepL]
  exact ⟨x, xs, rfl, h, r⟩
theorem RepL.take : ∀ {ds : List Dt} {xs : List V} (n : Nat), RepL K mg own H ds xs → RepL K mg own H (ds.take n) (xs.take n)
  | _, _, 0, _ => RepL.nil
  | [], xs, n + 1, h => by
    simp only [RepL] at h
    rw [h]
    exact RepL.nil
  | d :: ds, xs, n + 1, h => by
    simp only [RepL] at h
    obtain ⟨x, r, e, h1, h2⟩ := h
    rw [e]
    exact RepL.cons h1 (RepL.take n h2)
theorem RepL.drop : ∀ {ds : List Dt} {xs : List V} (n : Nat), RepL K mg own H ds xs → RepL K mg own H (ds.drop n) (xs.drop n)
  | _, _, 0, h => h
  | [], xs, n + 1, h => by
    simp only [RepL] at h
    rw [h]
    exact RepL.nil
  | d :: ds, xs, n + 1, h => by
    simp only [RepL] at h
    obtain ⟨x, r, e, h1, h2⟩ := h
    rw [e]
    exact RepL.drop n h2
end

/-! ## the slots -/
structure Fi where
  H0 : Hp
  pin : List (Nat × Addr)
structure Env (K : PySem.W.Frag) (mg : Str → Option Value) (F : Fi) (own : Own) (σ : L2.St) (H : Hp) (ρ : Rho) : Prop where
  len : σ.length = ρ.length
  slot : ∀ i t, ρ[i]? = some (some t) → ∃ x, σ[i]? = some (some x) ∧ RepT K mg own H i t x
  nw : ∀ b i o, own b = .mine i → H b = some o → F.H0 b = none ∨ (i, b) ∈ F.pin
  pin : ∀ p ∈ F.pin, σ[p.1]? = some (some (.ref p.2))
  ex : ∀ b o, F.H0 b = some o → ∃ o', H b = some o'
section
variable {K : PySem.W.Frag} {mg : Str → Option Value} {F : Fi} {own own' : Own} {σ : L2.St} {H H' : Hp} {ρ : Rho}
theorem RepT.ext (x : Ext own H own' H') {i : Nat} : ∀ {t : Tr} {y : V}, RepT K mg own H i t y → RepT K mg own' H' i t y
  | .v d, _, h => RepD.mono x.good.fre h
  | .o d, _, ⟨a, e, f, r⟩ => by
    obtain ⟨o, ho⟩ := r.there
    exact ⟨a, e, (x.keep a o ho).2.trans f, r.mono x.good.fre fun u h => (x.keep a u h).1⟩
theorem Env.ext (x : Ext own H own' H') (e : Env K mg F own σ H ρ) : Env K mg F own' σ H' ρ :=
  ⟨e.len, fun i t h => by
    obtain ⟨y, h1, h2⟩ := e.slot i t h
    exact ⟨y, h1, h2.ext x⟩, fun b i o h1 h2 => by
    obtain ⟨q1, q2⟩ := x.nw b i o h1 h2
    exact e.nw b i o q1 q2, e.pin, fun b o h => by
    obtain ⟨o', h'⟩ := e.ex b o h
    exact ⟨o', (x.keep b o' h').1⟩⟩
/-- a name is frozen: its slot's object gets the label free -/
theorem Env.freeze (e : Env K mg F own σ H ρ) {i : Nat} {t : Tr} (h : ρ[i]? = some (some t)) :
    ∃ own' x, Good own H own' H ∧ Env K mg F own' σ H (ρ.set i (some (.v t.fz))) ∧ σ[i]? = some (some x) ∧ RepD K mg own' H t.fz x := by
  obtain ⟨x, h1, h2⟩ := e.slot i t h
  have hi : i < ρ.length := (List.getElem?_eq_some_iff.mp h).1
  cases t with
  | v d =>
    refine ⟨own, x, Good.refl, ?_, h1, h2⟩
    have : ρ.set i (some (.v (Tr.v d).fz)) = ρ := by
      show ρ.set i (some (.v d)) = ρ
      exact List.ext_getElem? fun j => by
        by_cases hj : i = j
        · subst hj; rw [List.getElem?_set_self hi, h]
        · rw [List.getElem?_set_ne hj]
    rw [this]
    exact e
  | o d =>
    obtain ⟨a, rfl, f, r⟩ := h2
    have g : Good own H (setO own a .free) H := ⟨fun b o hb l => by
      have hb' : b ≠ a := fun z => by
        rw [z, f] at l
        rcases l with l | l <;> cases l
      exact ⟨hb, setO_ne hb'⟩, fun b o h => ⟨o, h⟩⟩
    have r' := r.mono g.fre fun _ h => h
    refine ⟨setO own a .free, _, g, ⟨by rw [List.length_set]; exact e.len, fun j t' hj => ?_, fun b j o hb ho => ?_, e.pin, e.ex⟩, h1, r'.free setO_same⟩
    · by_cases hij : i = j
      · subst hij
        rw [List.getElem?_set_self hi] at hj
        cases hj
        exact ⟨_, h1, r'.free setO_same⟩
      · rw [List.getElem?_set_ne hij] at hj
        obtain ⟨y, q1, q2⟩ := e.slot j t' hj
        refine ⟨y, q1, ?_⟩
        cases t' with
        | v d' => exact RepD.mono g.fre q2
        | o d' =>
          obtain ⟨c, rfl, f', r2⟩ := q2
          have hc : c ≠ a := fun z => by
            rw [z, f] at f'
            cases f'
            exact hij rfl
          exact ⟨c, rfl, (setO_ne hc).trans f', r2.mono g.fre fun _ h => h⟩
    · by_cases hba : b = a
      · rw [hba, setO_same] at hb; cases hb
      · rw [setO_ne hba] at hb
        exact e.nw b j o hb ho
end
end DL
end
section
set_option Elab.async false
set_option linter.all false
set_option maxRecDepth 100000
set_option maxHeartbeats 2000000
namespace DL
open PySem PySem.Spec PyProof.Rows L2

inductive Res (α : Type) where
  | ok (a : α) (ρ : Rho) | exc (x : Dx) (ρ : Rho) | stuck
abbrev C (α : Type) := Rho → Res α
/-- what a name may be handed on as: data, or the slot itself -/
inductive Ar where
  | d (x : Dt) | sl (i : Nat)
inductive Out where
  | next (ρ : Rho) | ret (t : Tr) (ρ : Rho) | brk (ρ : Rho) | cont (ρ : Rho) | exc (x : Dx) (ρ : Rho) | stuck
abbrev S := Rho → Out
def bindR {α β : Type} (c : C α) (k : α → C β) : C β := fun ρ => match c ρ with
  | .ok a ρ' => k a ρ'
  | .exc x ρ' => .exc x ρ'
  | .stuck => .stuck
def ret {α : Type} (a : α) : C α := fun ρ => .ok a ρ
def lift {α : Type} (o : Option α) : C α := fun ρ => match o with | some a => .ok a ρ | none => .stuck

abbrev Rp (α β : Type) := Hp → Own → Hp → α → β → Prop
/-- a reading's end that leans on the first heap by what it lacks -/
def Anti {α β : Type} (rep : Rp α β) : Prop := ∀ Hi Hj own H a b, (∀ x, Hj x = none → Hi x = none) → rep Hj own H a b → rep Hi own H a b
section
variable (K : PySem.W.Frag) (mg : Str → Option Value) (W : WX)
def PostR {α β : Type} (F : Fi) (own : Own) (σ : L2.St) (H : Hp) (rep : Rp α β) (r : Res α) (Q : β → Hp → Prop) : Prop := match r with
  | .ok a ρ' => ∀ own' b H', Good own H own' H' → Env K mg F own' σ H' ρ' → rep H own' H' a b → Q b H'
  | .exc x ρ' => ∀ own' cls dd H', Good own H own' H' → Env K mg F own' σ H' ρ' → RepX K mg own' H' x cls dd → W cls dd σ H'
  | .stuck => False
def PostS (F : Fi) (own : Own) (H : Hp) (o : Out) (D : Ends) : Prop := match o with
  | .next ρ' => ∀ own' σ' H', Good own H own' H' → Env K mg F own' σ' H' ρ' → D.nx σ' H'
  | .brk ρ' => ∀ own' σ' H', Good own H own' H' → Env K mg F own' σ' H' ρ' → D.bk σ' H'
  | .cont ρ' => ∀ own' σ' H', Good own H own' H' → Env K mg F own' σ' H' ρ' → D.ct σ' H'
  | .ret (.v d) ρ' => ∀ own' σ' x H', Good own H own' H' → Env K mg F own' σ' H' ρ' → RepD K mg own' H' d x → D.rt x H'
  | .ret (.o d) ρ' => ∀ own' σ' a H', Good own H own' H' → Env K mg F own' σ' H' ρ' → F.H0 a = none → own' a = .other → RepO K mg own' H' d a → D.rt (.ref a) H'
  | .exc x ρ' => ∀ own' cls dd σ' H', Good own H own' H' → Env K mg F own' σ' H' ρ' → RepX K mg own' H' x cls dd → W cls dd σ' H'
  | .stuck => False
def repE : Rp Dt V := fun _ own H d x => RepD K mg own H d x
def repB : Rp Bool Bool := fun _ _ _ a b => a = b
/-- frozen, or a new object that nobody has -/
def repF : Rp Tr V := fun Hi own H t x => match t with
  | .v d => RepD K mg own H d x
  | .o d => ∃ a, x = .ref a ∧ Hi a = none ∧ own a = .other ∧ RepO K mg own H d a
def repAr (σ : L2.St) (own : Own) (H : Hp) (a : Ar) (x : V) : Prop := match a with
  | .d d => RepD K mg own H d x
  | .sl i => σ[i]? = some (some x)
def RepA (σ : L2.St) (own : Own) (H : Hp) : List Ar → List V → Prop
  | [], xs => xs = []
  | a :: as, xs => ∃ x r, xs = x :: r ∧ repAr K mg σ own H a x ∧ RepA σ own H as r
def repA (σ : L2.St) : Rp (List Ar) (List V) := fun _ own H as xs => RepA K mg σ own H as xs
/-- what is walked: ds, whatever the loop does to what it owns -/
def ItOk (J : It) (own : Own) (H : Hp) (ds : List Dt) : Prop := ∀ own1 H1, Good own H own1 H1 →
  (∀ i d, ds[i]? = some d → J.go i H1 ∧ ∀ x H', J.yld i H1 x H' → ∃ own', Ext own1 H1 own' H' ∧ RepD K mg own' H' d x) ∧ J.stop ds.length H1
def repI : Rp (List Dt) It := fun _ own H ds J => ItOk K mg J own H ds
def canon {α β : Type} (ios : List Nat) (rep : L2.St → Rp α β) (c : C α) : L2.St → Hp → (β → Hp → Prop) → Prop := fun σ H Q =>
  ∃ F own ρ, F.pin.map (·.1) = ios ∧ Env K mg F own σ H ρ ∧ PostR K mg W F own σ H (rep σ) (c ρ) Q
def cE (ios : List Nat) (c : C Dt) : TE := canon K mg W ios (fun _ => repE K mg) c
def cF (ios : List Nat) (c : C Tr) : TE := canon K mg W ios (fun _ => repF K mg) c
def cB (ios : List Nat) (c : C Bool) : TT := canon K mg W ios (fun _ => repB) c
def cA (ios : List Nat) (c : C (List Ar)) : TA := canon K mg W ios (fun σ => repA K mg σ) c
def cI (ios : List Nat) (c : C (List Dt)) : TI := canon K mg W ios (fun _ => repI K mg) c
def cS (ios : List Nat) (c : S) : TS := fun D σ H => ∃ F own ρ, F.pin.map (·.1) = ios ∧ Env K mg F own σ H ρ ∧ PostS K mg W F own H (c ρ) D
end
section
variable {K : PySem.W.Frag} {mg : Str → Option Value} {W : WX} {F : Fi} {own own1 : Own} {σ : L2.St} {H H1 : Hp}
theorem anti_E : Anti (repE K mg) := fun _ _ _ _ _ _ _ h => h
theorem anti_B : Anti repB := fun _ _ _ _ _ _ _ h => h
theorem anti_A : Anti (repA K mg σ) := fun _ _ _ _ _ _ _ h => h
theorem anti_I : Anti (repI K mg) := fun _ _ _ _ _ _ _ h => h
theorem anti_F : Anti (repF K mg) := fun Hi Hj own H a b k h => by
  cases a with
  | v d => exact h
  | o d =>
    obtain ⟨a, e, n, r⟩ := h
    exact ⟨a, e, k a n, r⟩
theorem PostR.move {α β : Type} {rep : Rp α β} {r : Res α} {Q : β → Hp → Prop} (an : Anti rep) (g : Good own H own1 H1) (p : PostR K mg W F own σ H rep r Q) : PostR K mg W F own1 σ H1 rep r Q := by
  cases r with
  | ok a ρ' => exact fun own' b H' g' e r => p own' b H' (g.trans g') e (an _ _ _ _ _ _ (fun x h => g.none h) r)
  | exc x ρ' => exact fun own' cls dd H' g' e r => p own' cls dd H' (g.trans g') e r
  | stuck => exact p
theorem PostS.move {o : Out} {D : Ends} (g : Good own H own1 H1) (p : PostS K mg W F own H o D) : PostS K mg W F own1 H1 o D := by
  cases o with
  | next ρ' => exact fun own' σ' H' g' e => p own' σ' H' (g.trans g') e
  | brk ρ' => exact fun own' σ' H' g' e => p own' σ' H' (g.trans g') e
  | cont ρ' => exact fun own' σ' H' g' e => p own' σ' H' (g.trans g') e
  | exc x ρ' => exact fun own' cls dd σ' H' g' e r => p own' cls dd σ' H' (g.trans g') e r
  | stuck => exact p
  | ret t ρ' =>
    cases t with
    | v d => exact fun own' σ' x H' g' e r => p own' σ' x H' (g.trans g') e r
    | o d => exact fun own' σ' a H' g' e r => p own' σ' a H' (g.trans g') e r
/-- THE STEP: behind c, then k -/
theorem PostR.bind {α β γ δ : Type} {rep1 : Rp α β} {rep2 : Rp γ δ} {c : C α} {k : α → C γ} {ρ : Rho} {Q : δ → Hp → Prop} {Q1 : β → Hp → Prop} (an : Anti rep2) (p : PostR K mg W F own σ H rep2 (bindR c k ρ) Q)
    (f : ∀ own1 b H1 a ρ1, Good own H own1 H1 → Env K mg F own1 σ H1 ρ1 → rep1 H own1 H1 a b → PostR K mg W F own1 σ H1 rep2 (k a ρ1) Q → Q1 b H1) : PostR K mg W F own σ H rep1 (c ρ) Q1 := by
  unfold bindR at p
  cases h : c ρ with
  | ok a ρ' =>
    rw [h] at p
    exact fun own' b H' g e r => f own' b H' a ρ' g e r (PostR.move an g p)
  | exc x ρ' =>
    rw [h] at p
    exact p
  | stuck =>
    rw [h] at p
    exact p
/-- .. into a statement -/
def bindS {α : Type} (c : C α) (k : α → S) : S := fun ρ => match c ρ with
  | .ok a ρ' => k a ρ'
  | .exc x ρ' => .exc x ρ'
  | .stuck => .stuck
theorem PostS.bind {α β : Type} {rep1 : Rp α β} {c : C α} {k : α → S} {ρ : Rho} {D : Ends} {Q1 : β → Hp → Prop} (he : Env K mg F own σ H ρ) (p : PostS K mg W F own H (bindS c k ρ) D)
    (f : ∀ own1 b H1 a ρ1, Good own H own1 H1 → Env K mg F own1 σ H1 ρ1 → rep1 H own1 H1 a b → PostS K mg W F own1 H1 (k a ρ1) D → Q1 b H1) : PostR K mg W F own σ H rep1 (c ρ) Q1 := by
  unfold bindS at p
  cases h : c ρ with
  | ok a ρ' =>
    rw [h] at p
    exact fun own' b H' g e r => f own' b H' a ρ' g e r (PostS.move g p)
  | exc x ρ' =>
    rw [h] at p
    exact fun own' cls dd H' g e r => p own' cls dd σ H' g e r
  | stuck =>
    rw [h] at p
    exact p
end
/-! ## judgements: HandS's own, with the readings above -/
abbrev JE (X : Cx) (W : WX) (ios : List Nat) (e : Expr) (c : C Dt) : Prop := PE X e (cE X.K X.mg W ios c)
abbrev JF (X : Cx) (W : WX) (ios : List Nat) (e : Expr) (c : C Tr) : Prop := PE X e (cF X.K X.mg W ios c)
abbrev JT (X : Cx) (W : WX) (ios : List Nat) (e : Expr) (c : C Bool) : Prop := PT X e (cB X.K X.mg W ios c)
abbrev JA (X : Cx) (W : WX) (ios : List Nat) (es : List Expr) (c : C (List Ar)) : Prop := PA X es (cA X.K X.mg W ios c)
abbrev JI (X : Cx) (W : WX) (ios : List Nat) (tg it : Expr) (c : C (List Dt)) : Prop := PI X tg it (cI X.K X.mg W ios c)
abbrev JS (X : Cx) (W : WX) (ios : List Nat) (st : Stmt) (c : S) : Prop := PS X st (cS X.K X.mg W ios c)
abbrev JSs (X : Cx) (W : WX) (ios : List Nat) (st : List Stmt) (c : S) : Prop := PSs X st (cS X.K X.mg W ios c)
section
variable {X : Cx} {W : WX} {ios : List Nat} {e a b : Expr} {es : List Expr} {pos : Pos}
theorem pe_imp {t t' : TE} (h : PE X e t) (i : ∀ σ H Q, t' σ H Q → t σ H Q) : PE X e t' := ⟨fun pins s σ H Q I q => h.run pins s σ H Q I (i σ H Q q)⟩
theorem pt_imp {t t' : TT} (h : PT X e t) (i : ∀ σ H Q, t' σ H Q → t σ H Q) : PT X e t' := ⟨fun pins s σ H Q I q => h.run pins s σ H Q I (i σ H Q q)⟩
theorem pw_imp {t t' : TT} (h : PW X e t) (i : ∀ σ H Q, t' σ H Q → t σ H Q) : PW X e t' := ⟨fun wh pins s σ H Q I q => h.run wh pins s σ H Q I (i σ H Q q)⟩
theorem pa_imp {t t' : TA} (h : PA X es t) (i : ∀ σ H Q, t' σ H Q → t σ H Q) : PA X es t' := ⟨fun pos pins s σ H Q I q => h.run pos pins s σ H Q I (i σ H Q q)⟩
theorem pi_imp {tg : Expr} {t t' : TI} (h : PI X tg e t) (i : ∀ σ H R, t' σ H R → t σ H R) : PI X tg e t' := ⟨fun pins s σ H R I q => h.run pins s σ H R I (i σ H R q)⟩
theorem ps_imp {st : Stmt} {t t' : TS} (h : PS X st t) (i : ∀ D σ H, t' D σ H → t D σ H) : PS X st t' := ⟨fun pins s σ H D I q => h.run pins s σ H D I (i D σ H q)⟩
theorem pss_imp {st : List Stmt} {t t' : TS} (h : PSs X st t) (i : ∀ D σ H, t' D σ H → t D σ H) : PSs X st t' := ⟨fun pins s σ H D I q => h.run pins s σ H D I (i D σ H q)⟩

/-! ### names, constants -/
/-- a name as a value: what it owns is frozen -/
def cVar (i : Nat) : C Dt := fun ρ => match ρ[i]? with
  | some (some t) => .ok t.fz (ρ.set i (some (.v t.fz)))
  | _ => .stuck
theorem je_var {i : Nat} {x : Str} (hN : X.N[i]? = some x) (hv : Vis X.env.scope x) (hd : (x == ("__debug__" : Str)) = false := by decide) (hcd : (x == ("__classdict__" : Str)) = false := by decide) : JE X W ios (.Name x pos) (cVar i) := by
  refine pe_imp (pe_var hN hv hd hcd) fun σ H Q ⟨F, own, ρ, hp, he, po⟩ => ?_
  unfold cVar at po
  cases h : ρ[i]? with
  | none => rw [h] at po; exact po.elim
  | some o =>
    rw [h] at po
    cases o with
    | none => exact po.elim
    | some t =>
      obtain ⟨own', y, g, e', h1, r⟩ := he.freeze h
      exact ⟨y, h1, po own' y H g e' r⟩
/-- .. looked at: what it owns stays owned. For places where the value is not kept -/
def cPeek (i : Nat) : C (Nat × Tr) := fun ρ => match ρ[i]? with
  | some (some t) => .ok (i, t) ρ
  | _ => .stuck
theorem je_c {x : V} {d : Dt} (h : PE X e (tC x)) (r : ∀ own H, RepD X.K X.mg own H d x) : JE X W ios e (ret d) :=
  pe_imp h fun σ H Q ⟨F, own, ρ, hp, he, po⟩ => po own x H Good.refl he (r _ _)
theorem je_int {i j} : JE X W ios (.Constant (.int i) j pos) (ret (.int i)) := je_c pe_int fun _ _ => by simp only [RepD]
theorem je_bl {b j} : JE X W ios (.Constant (.bool b) j pos) (ret (.bl b)) := je_c pe_bl fun _ _ => by simp only [RepD]
theorem je_non {j} : JE X W ios (.Constant .none j pos) (ret .non) := je_c pe_non fun _ _ => by simp only [RepD]
theorem je_str {x : Str} {s : List Nat} {j} (h : x = mkS s := by rfl) : JE X W ios (.Constant (.str x) j pos) (ret (.str s)) := je_c pe_str fun _ _ => by simp only [RepD, h]

/-- a bool as a test -/
def isBl (c : C Dt) : C Bool := bindR c fun d => match d with | .bl b => ret b | _ => lift none
theorem post_bl {K : PySem.W.Frag} {mg : Str → Option Value} {c : C Dt} {σ : L2.St} {H : Hp} {Q : Bool → Hp → Prop} (h : cB K mg W ios (isBl c) σ H Q) : tTest (cE K mg W ios c) σ H Q := by
  obtain ⟨F, own, ρ, hp, he, po⟩ := h
  refine ⟨F, own, ρ, hp, he, PostR.bind anti_B po fun own1 x H1 a ρ1 g1 e1 r1 p1 => ?_⟩
  cases a with
  | bl b =>
    have r2 : x = .bl b := by simpa only [repE, RepD] using r1
    exact ⟨b, r2, p1 own1 b H1 Good.refl e1 rfl⟩
  | _ => exact p1.elim
end
end DL
end
section
set_option Elab.async false
set_option linter.all false
set_option maxRecDepth 100000
set_option maxHeartbeats 2000000
namespace DL
open PySem PySem.Spec PyProof.Rows L2

/-! ## operands that are looked at, not kept -/
section
variable (K : PySem.W.Frag) (mg : Str → Option Value) (own : Own) (H : Hp)
def RepPk (d : Dt) (x : V) : Prop := RepD K mg own H d x ∨ ∃ a i, x = .ref a ∧ own a = .mine i ∧ RepO K mg own H d a
end
def deref (a : Ar) (ρ : Rho) : Option Dt := match a with
  | .d d => some d
  | .sl i => match ρ[i]? with | some (some t) => some t.fz | _ => none
section
variable {K : PySem.W.Frag} {mg : Str → Option Value} {F : Fi} {own own' : Own} {σ : L2.St} {H H' : Hp} {ρ ρ' : Rho}
theorem deref_pk (e : Env K mg F own σ H ρ) {a : Ar} {x : V} {d : Dt} (r : repAr K mg σ own H a x) (h : deref a ρ = some d) : RepPk K mg own H d x := by
  cases a with
  | d y =>
    have e1 : y = d := Option.some.inj h
    subst e1
    exact .inl r
  | sl i =>
    unfold deref at h
    simp only at h
    cases h1 : ρ[i]? with
    | none => rw [h1] at h; cases h
    | some o =>
      rw [h1] at h
      cases o with
      | none => cases h
      | some t =>
        have e1 : t.fz = d := Option.some.inj h
        subst e1
        obtain ⟨y, q1, q2⟩ := e.slot i t h1
        have q3 : σ[i]? = some (some x) := r
        rw [q1] at q3
        cases q3
        cases t with
        | v d => exact .inl q2
        | o d =>
          obtain ⟨a, e2, f, q⟩ := q2
          exact .inr ⟨a, i, e2, f, q⟩
theorem repAr_mono (g : Good own H own' H') {a : Ar} {x : V} (r : repAr K mg σ own H a x) : repAr K mg σ own' H' a x := by
  cases a with
  | d y => exact RepD.mono g.fre r
  | sl i => exact r
/-! ### what stands there -/
theorem pk_int {i : Int} {x : V} (h : RepPk K mg own H (.int i) x) : x = .int i := by
  rcases h with h | ⟨a, i, _, _, h⟩
  · simpa only [RepD] using h
  · simp only [RepO] at h
theorem pk_bl {b : Bool} {x : V} (h : RepPk K mg own H (.bl b) x) : x = .bl b := by
  rcases h with h | ⟨a, i, _, _, h⟩
  · simpa only [RepD] using h
  · simp only [RepO] at h
theorem pk_non {x : V} (h : RepPk K mg own H .non x) : x = .non := by
  rcases h with h | ⟨a, i, _, _, h⟩
  · simpa only [RepD] using h
  · simp only [RepO] at h
theorem pk_str {s : List Nat} {x : V} (h : RepPk K mg own H (.str s) x) : x = .str (mkS s) := by
  rcases h with h | ⟨a, i, _, _, h⟩
  · simpa only [RepD] using h
  · simp only [RepO] at h
theorem pk_lst {ds : List Dt} {x : V} (h : RepPk K mg own H (.lst ds) x) : ∃ a xs, x = .ref a ∧ H a = some (.lst xs) ∧ RepL K mg own H ds xs := by
  rcases h with h | ⟨a, i, e, _, h⟩
  · simp only [RepD] at h
    obtain ⟨a, xs, e, _, k, r⟩ := h
    exact ⟨a, xs, e, k, r⟩
  · simp only [RepO] at h
    obtain ⟨xs, k, r⟩ := h
    exact ⟨a, xs, e, k, r⟩
theorem pk_tup {ds : List Dt} {x : V} (h : RepPk K mg own H (.tup ds) x) : ∃ a xs, x = .ref a ∧ own a = .free ∧ H a = some (.tup xs) ∧ RepL K mg own H ds xs := by
  rcases h with h | ⟨a, i, e, _, h⟩
  · simp only [RepD] at h
    exact h
  · simp only [RepO] at h
theorem pk_scr {ns : List Int} {x : V} (h : RepPk K mg own H (.scr ns) x) : ∃ a, x = .ref a ∧ SqL K H a (ns.map V.int) := by
  rcases h with h | ⟨a, i, e, _, h⟩
  · simp only [RepD] at h
    obtain ⟨a, e, f⟩ := h
    exact ⟨a, e, f.sq⟩
  · simp only [RepO] at h
theorem pk_obj {c : Str} {fs : List (Str × Dt)} {x : V} (h : RepPk K mg own H (.obj c fs) x) : ∃ a C dx q, x = .ref a ∧ mg c = some (.ref C) ∧ H a = some (.ins C dx q) ∧ (fs.map (·.1)) = (q.map (·.1)) ∧ RepF K mg own H fs (q.map (·.2)) := by
  rcases h with h | ⟨a, i, e, _, h⟩
  · simp only [RepD] at h
    obtain ⟨a, C, dx, q, e, _, m, k, r⟩ := h
    exact ⟨a, C, dx, q, e, m, k, r⟩
  · simp only [RepO] at h
    obtain ⟨C, dx, q, m, k, r⟩ := h
    exact ⟨a, C, dx, q, e, m, k, r⟩
theorem pk_dic {kd : Nat} {kvs : List (Dt × Dt)} {x : V} (h : RepPk K mg own H (.dic kd kvs) x) : ∃ a, x = .ref a ∧ RepO K mg own H (.dic kd kvs) a := by
  rcases h with h | ⟨a, i, e, _, h⟩
  · simp only [RepD] at h
    obtain ⟨a, e, _, r⟩ := h
    exact ⟨a, e, by simp only [RepO]; exact r⟩
  · exact ⟨a, e, h⟩
end
/-! ## new objects -/
section
variable {K : PySem.W.Frag} {mg : Str → Option Value} {own : Own} {H : Hp}
theorem new_tup {ds : List Dt} {xs : List V} (r : RepL K mg own H ds xs) {Q : VK} (h : ∀ own' H' v, Ext own H own' H' → RepD K mg own' H' (.tup ds) v → Q v H') : ∀ p, H p = none → Q (.ref p) (upd H p (.tup xs)) := fun p hp => by
  have x : Ext own H (setO own p .free) (upd H p (.tup xs)) := Ext.new hp fun _ => by intro z; cases z
  exact h _ _ _ x (by simp only [RepD]; exact ⟨p, xs, rfl, setO_same, upd_same, r.mono x.good.fre⟩)
theorem new_lst {ds : List Dt} {xs : List V} (r : RepL K mg own H ds xs) {Q : VK} (h : ∀ own' H' v, Ext own H own' H' → RepD K mg own' H' (.lst ds) v → Q v H') : ∀ p, H p = none → Q (.ref p) (upd H p (.lst xs)) := fun p hp => by
  have x : Ext own H (setO own p .free) (upd H p (.lst xs)) := Ext.new hp fun _ => by intro z; cases z
  exact h _ _ _ x (by simp only [RepD]; exact ⟨p, xs, rfl, setO_same, upd_same, r.mono x.good.fre⟩)
end

/-! ## operators on data -/
def OpD (K : PySem.W.Frag) (mg : Str → Option Value) (r : R2) (f : Dt → Dt → Option Dt) : Prop := ∀ own H a b x y d (Q : VK), RepPk K mg own H a x → RepPk K mg own H b y → f a b = some d →
  (∀ own' H' v, Ext own H own' H' → RepD K mg own' H' d v → Q v H') → r x y H Q
def fits (n : Nat) : Bool := decide (n ≤ sizeLine)
section
variable {K : PySem.W.Frag} {mg : Str → Option Value}
theorem flat_end {own : Own} {H : Hp} {d : Dt} {v : V} {Q : VK} (h : ∀ own' H' v, Ext own H own' H' → RepD K mg own' H' d v → Q v H') (r : RepD K mg own H d v) : Q v H := h own H v Ext.refl r
theorem rep_int {own : Own} {H : Hp} (i : Int) : RepD K mg own H (.int i) (.int i) := by simp only [RepD]
theorem rep_bl {own : Own} {H : Hp} (i : Bool) : RepD K mg own H (.bl i) (.bl i) := by simp only [RepD]
theorem rep_non {own : Own} {H : Hp} : RepD K mg own H .non .non := by simp only [RepD]
theorem rep_str {own : Own} {H : Hp} (i : List Nat) : RepD K mg own H (.str i) (.str (mkS i)) := by simp only [RepD]
theorem rep_str' {own : Own} {H : Hp} {i : List Nat} {z : Str} (h : z = mkS i) : RepD K mg own H (.str i) (.str z) := by rw [h]; exact rep_str i
theorem mkS_len (s : List Nat) : (mkS s).length = s.length := by simp [mkS, Str.length]
theorem mkS_app (s t : List Nat) : mkS s ++ mkS t = mkS (s ++ t) := Str.ext' (by
  show (mkS s).cps ++ (mkS t).cps = _
  simp [mkS])
/-- ints only -/
def fI (C : Int → Int → Bool) (g : Int → Int → Dt) : Dt → Dt → Option Dt
  | .int i, .int j => if C i j then some (g i j) else none
  | _, _ => none
theorem opd_I {C : Int → Int → Prop} {Cb : Int → Int → Bool} {g : Int → Int → V} {gd : Int → Int → Dt} (hC : ∀ i j, Cb i j = true → C i j) (hg : ∀ own H i j, RepD K mg own H (gd i j) (g i j)) : OpD K mg (rI C g) (fI Cb gd) := by
  intro own H a b x y d Q ra rb hf h
  unfold fI at hf
  split at hf
  · rename_i i j
    split at hf
    · rename_i hc
      cases hf
      exact ⟨i, j, pk_int ra, pk_int rb, hC i j hc, flat_end h (hg _ _ _ _)⟩
    · cases hf
  · cases hf
theorem opd_I0 {g : Int → Int → V} {gd : Int → Int → Dt} (hg : ∀ own H i j, RepD K mg own H (gd i j) (g i j)) : OpD K mg (rI0 g) (fI (fun _ _ => true) gd) := by
  intro own H a b x y d Q ra rb hf h
  unfold fI at hf
  split at hf
  · rename_i i j
    simp only [if_true] at hf
    cases hf
    exact ⟨i, j, pk_int ra, pk_int rb, flat_end h (hg _ _ _ _)⟩
  · cases hf
theorem OpD.or {r r' : R2} {f g : Dt → Dt → Option Dt} (h : OpD K mg r f) (h' : OpD K mg r' g) : OpD K mg (fun x y H Q => r x y H Q ∨ r' x y H Q) (fun a b => match f a b with | some d => some d | none => g a b) := by
  intro own H a b x y d Q ra rb hf hq
  dsimp only at hf
  cases e : f a b with
  | some d' =>
    rw [e] at hf
    have e2 : d' = d := Option.some.inj hf
    subst e2
    exact .inl (h own H a b x y d' Q ra rb e hq)
  | none =>
    rw [e] at hf
    exact .inr (h' own H a b x y d Q ra rb hf hq)
/-- a + b -/
def dAdd : Dt → Dt → Option Dt
  | .int i, .int j => some (.int (i + j))
  | .str s, .str t => if fits (s.length + t.length) then some (.str (s ++ t)) else none
  | .lst s, .lst t => if fits (s.length + t.length) then some (.lst (s ++ t)) else none
  | .tup s, .tup t => if fits (s.length + t.length) then some (.tup (s ++ t)) else none
  | _, _ => none
def rAddA (K : PySem.W.Frag) : R2 := fun x y H Q => ((rI0 fun i j => .int (i + j)) x y H Q ∨ (fun x y H Q => ∃ i j, x = .str i ∧ y = .str j ∧ i.length + j.length ≤ sizeLine ∧ Q (.str (i ++ j)) H) x y H Q) ∨ (rCat x y H Q ∨ rCatA K x y H Q)
theorem op_addA {X : Cx} : OpR X (binaryOp .Add) (rAddA X.K) := (op_add.or op_add_str).or (op_cat.or op_catA)
theorem fits_le {n : Nat} (h : fits n = true) : n ≤ sizeLine := of_decide_eq_true h
theorem RepL.nil_of {own : Own} {H : Hp} {ds : List Dt} (h : RepL K mg own H ds []) : ds = [] := List.eq_nil_of_length_eq_zero h.length.symm
theorem opd_add : OpD K mg (rAddA K) dAdd := by
  intro own H a b x y d Q ra rb hf h
  unfold dAdd at hf
  split at hf
  · rename_i i j
    cases hf
    exact .inl (.inl ⟨i, j, pk_int ra, pk_int rb, flat_end h (rep_int _)⟩)
  · rename_i s t
    split at hf
    · rename_i hz
      cases hf
      exact .inl (.inr ⟨mkS s, mkS t, pk_str ra, pk_str rb, by rw [mkS_len, mkS_len]; exact fits_le hz, flat_end h (rep_str' (mkS_app s t))⟩)
    · cases hf
  · rename_i s t
    split at hf
    · rename_i hz
      cases hf
      obtain ⟨p, xs, e1, k1, r1⟩ := pk_lst ra
      obtain ⟨q, ys, e2, k2, r2⟩ := pk_lst rb
      exact .inr (.inl ⟨p, q, xs, ys, e1, e2, k1, k2, by rw [r1.length, r2.length]; exact fits_le hz, new_lst (r1.app r2) h⟩)
    · cases hf
  · rename_i s t
    split at hf
    · rename_i hz
      cases hf
      obtain ⟨p, xs, e1, f1, k1, r1⟩ := pk_tup ra
      obtain ⟨q, ys, e2, f2, k2, r2⟩ := pk_tup rb
      refine .inr (.inr ⟨p, q, xs, ys, e1, e2, SqT.of k1, SqT.of k2, by rw [r1.length, r2.length]; exact fits_le hz, fun z => ?_, fun _ z => ?_, fun _ _ => new_tup (r1.app r2) h⟩)
      · subst z
        rw [r1.nil_of, List.nil_append] at h
        exact flat_end h (by simp only [RepD]; exact ⟨q, ys, rfl, f2, k2, r2⟩)
      · subst z
        rw [r2.nil_of, List.append_nil] at h
        exact flat_end h (by simp only [RepD]; exact ⟨p, xs, rfl, f1, k1, r1⟩)
    · cases hf
  · cases hf
/-- a * b -/
def bMul (i j : Int) : Bool := (decide (-(2 ^ 64) < i) && decide (i < 2 ^ 64)) || (decide (-(2 ^ 64) < j) && decide (j < 2 ^ 64))
def repL (k : Nat) (ds : List Dt) : List Dt := (List.replicate k ds).flatten
def repS (k : Nat) (s : List Nat) : List Nat := (List.replicate k s).flatten
def dMul : Dt → Dt → Option Dt
  | .int i, .int j => if bMul i j then some (.int (i * j)) else none
  | .str s, .int j => if decide (0 ≤ j) && decide (j ≤ 1000000) && fits (s.length * j.toNat) then some (.str (repS j.toNat s)) else none
  | .lst s, .int j => if decide (0 ≤ j) && decide (j ≤ 1000000) && fits (s.length * j.toNat) then some (.lst (repL j.toNat s)) else none
  | _, _ => none
def rMulS : R2 := fun x y H Q => ∃ z n, x = .str z ∧ y = .int n ∧ MulOk z n ∧ Q (.str (Txt.mul z n)) H
theorem op_mulS {X : Cx} : OpR X (binaryOp .Mult) rMulS := by
  intro pins s σ H x y v u Q I rx ry ⟨z, n, e1, e2, ok, q⟩
  subst e1; subst e2
  obtain ⟨t, rfl⟩ := rx
  obtain ⟨t', rfl⟩ := ry
  exact SB.mul ok fun t2 k => ⟨.str _, H, I.tok _, ⟨_, rfl⟩, q⟩
def rMulA : R2 := fun x y H Q => (rI CMul fun i j => .int (i * j)) x y H Q ∨ (rMulS x y H Q ∨ rRep x y H Q)
theorem op_mulA {X : Cx} : OpR X (binaryOp .Mult) rMulA := op_mul.or (op_mulS.or op_rep)
theorem RepL.rep {own : Own} {H : Hp} {ds : List Dt} {xs : List V} (h : RepL K mg own H ds xs) : ∀ k, RepL K mg own H (List.replicate k ds).flatten (List.replicate k xs).flatten
  | 0 => RepL.nil
  | k + 1 => by
    rw [List.replicate_succ, List.replicate_succ, List.flatten_cons, List.flatten_cons]
    exact h.app (RepL.rep h k)
end
end DL
end
section
set_option Elab.async false
set_option linter.all false
set_option maxRecDepth 100000
set_option maxHeartbeats 2000000
namespace DL
open PySem PySem.Spec PyProof.Rows L2
section
variable {K : PySem.W.Frag} {mg : Str → Option Value}
theorem foldl_app (l : List (Array Nat)) : ∀ acc : Array Nat, (l.foldl (· ++ ·) acc).toList = acc.toList ++ (l.map (·.toList)).flatten := by
  induction l with
  | nil => intro acc; simp
  | cons x r ih => intro acc; rw [List.foldl_cons, ih]; simp
theorem mul_mkS (s : List Nat) (k : Nat) : Txt.mul (mkS s) (k : Int) = mkS (repS k s) := by
  unfold Txt.mul
  by_cases h : (k : Int) < 1
  · rw [if_pos h]
    have : k = 0 := by omega
    subst this
    rfl
  · rw [if_neg h]
    split
    · rename_i h2
      rcases Bool.or_eq_true_iff.mp h2 with h3 | h3
      · have : k = 1 := by have := eq_of_beq h3; omega
        subst this
        show mkS s = mkS (repS 1 s)
        simp [repS]
      · have h4 : (mkS s).length = 0 := eq_of_beq h3
        rw [mkS_len] at h4
        have : s = [] := List.eq_nil_of_length_eq_zero h4
        subst this
        have e : repS k [] = [] := by
          unfold repS
          induction k with
          | zero => rfl
          | succ n ih => simp
        rw [e]
    · refine Str.ext' ?_
      have := foldl_app (List.replicate k (mkS s).cps) #[]
      rw [Int.toNat_natCast]
      apply Array.toList_inj.mp
      rw [this]
      simp [mkS, repS]
theorem mul_ok {s : List Nat} {k : Nat} (hk : k ≤ 1000000) (h : s.length * k ≤ sizeLine) : MulOk (mkS s) (k : Int) := by
  have hs := sizeLine_eq
  refine ⟨?_, fun hn hne hgt => ?_, fun hn hne => ?_⟩
  · rw [Bool.or_eq_false_iff]
    exact ⟨decide_eq_false (by omega), decide_eq_false (by omega)⟩
  · rw [mkS_len] at hgt
    have hk0 : 0 < (k : Int) := by omega
    have h1 := (Int.ediv_lt_iff_lt_mul hk0).mp hgt
    have h2 : ((s.length * k : Nat) : Int) = (s.length : Int) * (k : Int) := by simp
    omega
  · rw [mkS_len, Int.toNat_natCast]
    exact decide_eq_false (by omega)
theorem opd_mul : OpD K mg rMulA dMul := by
  intro own H a b x y d Q ra rb hf h
  unfold dMul at hf
  split at hf
  · rename_i i j
    split at hf
    · rename_i hc
      cases hf
      refine .inl ⟨i, j, pk_int ra, pk_int rb, ?_, flat_end h (rep_int _)⟩
      unfold bMul at hc
      simp only [Bool.or_eq_true, Bool.and_eq_true, decide_eq_true_eq] at hc
      exact hc
    · cases hf
  · rename_i s j
    split at hf
    · rename_i hc
      cases hf
      simp only [Bool.and_eq_true, decide_eq_true_eq] at hc
      obtain ⟨⟨h1, h2⟩, h3⟩ := hc
      have h3 := fits_le h3
      obtain ⟨k, rfl⟩ : ∃ k : Nat, j = (k : Int) := ⟨j.toNat, by omega⟩
      rw [Int.toNat_natCast] at h3 h
      refine .inr (.inl ⟨mkS s, (k : Int), pk_str ra, pk_int rb, mul_ok (by omega) h3, ?_⟩)
      rw [mul_mkS]
      exact flat_end h (rep_str _)
    · cases hf
  · rename_i s j
    split at hf
    · rename_i hc
      cases hf
      simp only [Bool.and_eq_true, decide_eq_true_eq] at hc
      obtain ⟨⟨h1, h2⟩, h3⟩ := hc
      obtain ⟨p, xs, e1, k1, r1⟩ := pk_lst ra
      exact .inr (.inr ⟨p, j, xs, e1, pk_int rb, k1, by omega, by omega, by rw [r1.length]; exact fits_le h3, new_lst (r1.rep j.toNat) h⟩)
    · cases hf
  · cases hf
/-! ### other int operators -/
def dSub : Dt → Dt → Option Dt := fI (fun _ _ => true) fun i j => .int (i - j)
def dMod : Dt → Dt → Option Dt := fI (fun _ j => decide (0 < j)) fun i j => .int (i % j)
def dFdv : Dt → Dt → Option Dt := fI (fun _ j => decide (0 < j) && decide (j < 1073741824)) fun i j => .int (i / j)
def dPow : Dt → Dt → Option Dt := fI (fun i j => decide (0 ≤ j) && (decide (j ≤ 1000000) && decide (i.natAbs < 2 ^ 64))) fun i j => .int (i ^ j.toNat)
theorem opd_sub : OpD K mg (rI0 fun i j => .int (i - j)) dSub := opd_I0 fun _ _ _ _ => rep_int _
theorem opd_mod : OpD K mg (rI (fun _ j => 0 < j) fun i j => .int (i % j)) dMod := opd_I (fun _ _ h => of_decide_eq_true h) fun _ _ _ _ => rep_int _
theorem opd_fdv : OpD K mg (rI CDiv fun i j => .int (i / j)) dFdv := opd_I (fun _ _ h => by
  simp only [Bool.and_eq_true, decide_eq_true_eq] at h
  exact h) fun _ _ _ _ => rep_int _
theorem opd_pow : OpD K mg (rI CPow fun i j => .int (i ^ j.toNat)) dPow := opd_I (fun _ _ h => by
  simp only [Bool.and_eq_true, decide_eq_true_eq] at h
  exact h) fun _ _ _ _ => rep_int _
/-! ### order -/
def strLt (s t : List Nat) : Bool := decide (s < t)
def dLt : Dt → Dt → Option Dt
  | .int i, .int j => some (.bl (decide (i < j)))
  | .str s, .str t => some (.bl (strLt s t))
  | _, _ => none
def rLtA : R2 := fun x y H Q => (rI0 fun i j => .bl (decide (i < j))) x y H Q ∨ (fun x y H Q => ∃ i j, x = .str i ∧ y = .str j ∧ Q (.bl (decide (i.cps.toList < j.cps.toList))) H) x y H Q
theorem op_ltA {X : Cx} : OpR X (compareOp .Lt) rLtA := op_lt.or op_lt_str
theorem opd_lt : OpD K mg rLtA dLt := by
  intro own H a b x y d Q ra rb hf h
  unfold dLt at hf
  split at hf
  · cases hf
    exact .inl ⟨_, _, pk_int ra, pk_int rb, flat_end h (rep_bl _)⟩
  · cases hf
    exact .inr ⟨_, _, pk_str ra, pk_str rb, flat_end h (rep_bl _)⟩
  · cases hf
def dLe : Dt → Dt → Option Dt := fI (fun _ _ => true) fun i j => .bl (decide (i ≤ j))
def dGt : Dt → Dt → Option Dt := fI (fun _ _ => true) fun i j => .bl (decide (j < i))
def dGe : Dt → Dt → Option Dt := fI (fun _ _ => true) fun i j => .bl (decide (j ≤ i))
theorem opd_le : OpD K mg (rI0 fun i j => .bl (decide (i ≤ j))) dLe := opd_I0 fun _ _ _ _ => rep_bl _
theorem opd_gt : OpD K mg (rI0 fun i j => .bl (decide (j < i))) dGt := opd_I0 fun _ _ _ _ => rep_bl _
theorem opd_ge : OpD K mg (rI0 fun i j => .bl (decide (j ≤ i))) dGe := opd_I0 fun _ _ _ _ => rep_bl _
/-! ### is None -/
def isNon : Dt → Bool
  | .non => true
  | _ => false
def dIsN : Dt → Dt → Option Dt
  | d, .non => some (.bl (isNon d))
  | _, _ => none
def dNotN : Dt → Dt → Option Dt
  | d, .non => some (.bl (!isNon d))
  | _, _ => none
theorem pk_ref {own : Own} {H : Hp} {d : Dt} {x : V} (h : RepPk K mg own H d x) : x = .non ↔ d = .non := by
  cases d with
  | non => simp [pk_non h]
  | bl b => simp [pk_bl h]
  | int b => simp [pk_int h]
  | str b => simp [pk_str h]
  | tup b => obtain ⟨a, xs, e, _⟩ := pk_tup h; simp [e]
  | lst b => obtain ⟨a, xs, e, _⟩ := pk_lst h; simp [e]
  | dic k b => obtain ⟨a, e, _⟩ := pk_dic h; simp [e]
  | obj c b => obtain ⟨a, _, _, _, e, _⟩ := pk_obj h; simp [e]
  | scr b => obtain ⟨a, e, _⟩ := pk_scr h; simp [e]
theorem opd_isN : OpD K mg (fun x y H Q => y = .non ∧ Q (.bl (decide (x = .non))) H) dIsN := by
  intro own H a b x y d Q ra rb hf h
  unfold dIsN at hf
  split at hf
  · cases hf
    refine ⟨pk_non rb, ?_⟩
    have e := pk_ref ra
    have : decide (x = V.non) = isNon a := by
      rw [Bool.eq_iff_iff, decide_eq_true_eq, e]
      cases a <;> simp [isNon]
    rw [this]
    exact flat_end h (rep_bl _)
  · cases hf
theorem opd_notN : OpD K mg (fun x y H Q => y = .non ∧ Q (.bl (!decide (x = .non))) H) dNotN := by
  intro own H a b x y d Q ra rb hf h
  unfold dNotN at hf
  split at hf
  · cases hf
    refine ⟨pk_non rb, ?_⟩
    have e := pk_ref ra
    have : (!decide (x = V.non)) = (!isNon a) := by
      congr 1
      rw [Bool.eq_iff_iff, decide_eq_true_eq, e]
      cases a <;> simp [isNon]
    rw [this]
    exact flat_end h (rep_bl _)
  · cases hf
/-! ### equality -/
mutual
def toPy : Dt → Option PyData
  | .non => some .none
  | .bl b => some (.bool b)
  | .int i => some (.int i)
  | .str s => some (.str (mkS s))
  | .tup ds => match toPyL ds with | some q => some (.tuple q) | none => none
  | .lst ds => match toPyL ds with | some q => some (.list q) | none => none
  | _ => none
def toPyL : List Dt → Option (List PyData)
  | [] => some []
  | d :: ds => match toPy d, toPyL ds with | some p, some q => some (p :: q) | _, _ => none
end
def eqvD (a b : Dt) : Bool := match toPy a, toPy b with | some p, some q => PyData.eqv p q | _, _ => false
def okPy (a : Dt) : Bool := match toPy a with | some p => SeqAt.shaped p | none => false
mutual
theorem dp_of {own : Own} {H : Hp} : ∀ {d : Dt} {x : V} {p : PyData}, RepD K mg own H d x → toPy d = some p → Dp K H x p
  | .non, _, _, h, e => by simp only [RepD] at h; simp only [toPy] at e; cases e; subst h; exact .non
  | .bl b, _, _, h, e => by simp only [RepD] at h; simp only [toPy] at e; cases e; subst h; exact .bl b
  | .int b, _, _, h, e => by simp only [RepD] at h; simp only [toPy] at e; cases e; subst h; exact .int b
  | .str b, _, _, h, e => by simp only [RepD] at h; simp only [toPy] at e; cases e; subst h; exact .str _
  | .tup ds, _, _, h, e => by
    simp only [RepD] at h
    simp only [toPy] at e
    obtain ⟨a, xs, e1, _, k, r⟩ := h
    cases e2 : toPyL ds with
    | none => rw [e2] at e; cases e
    | some q =>
      rw [e2] at e
      cases e
      subst e1
      exact .tup (SqT.of k) (dp_ofL r e2)
  | .lst ds, _, _, h, e => by
    simp only [RepD] at h
    simp only [toPy] at e
    obtain ⟨a, xs, e1, _, k, r⟩ := h
    cases e2 : toPyL ds with
    | none => rw [e2] at e; cases e
    | some q =>
      rw [e2] at e
      cases e
      subst e1
      exact .lst (SqL.of k) (dp_ofL r e2)
  | .dic _ _, _, _, _, e => by simp only [toPy] at e; cases e
  | .obj _ _, _, _, _, e => by simp only [toPy] at e; cases e
  | .scr _, _, _, _, e => by simp only [toPy] at e; cases e
theorem dp_ofL {own : Own} {H : Hp} : ∀ {ds : List Dt} {xs : List V} {q : List PyData}, RepL K mg own H ds xs → toPyL ds = some q → DpAll K H xs q
  | [], _, _, h, e => by simp only [RepL] at h; simp only [toPyL] at e; cases e; subst h; exact .nil
  | d :: ds, _, _, h, e => by
    simp only [RepL] at h
    obtain ⟨x, r, e1, h1, h2⟩ := h
    simp only [toPyL] at e
    cases e2 : toPy d with
    | none => rw [e2] at e; cases e
    | some p =>
      rw [e2] at e
      cases e3 : toPyL ds with
      | none => rw [e3] at e; cases e
      | some q =>
        rw [e3] at e
        cases e
        subst e1
        exact .cons (dp_of h1 e2) (dp_ofL h2 e3)
end
theorem dp_pk {own : Own} {H : Hp} {d : Dt} {x : V} {p : PyData} (h : RepPk K mg own H d x) (e : toPy d = some p) : Dp K H x p := by
  rcases h with h | ⟨a, i, ex, _, h⟩
  · exact dp_of h e
  · cases d with
    | lst ds =>
      simp only [RepO] at h
      obtain ⟨xs, k, r⟩ := h
      simp only [toPy] at e
      cases e2 : toPyL ds with
      | none => rw [e2] at e; cases e
      | some q =>
        rw [e2] at e
        cases e
        subst ex
        exact .lst (SqL.of k) (dp_ofL r e2)
    | dic _ _ => simp only [toPy] at e; cases e
    | obj _ _ => simp only [toPy] at e; cases e
    | _ => simp only [RepO] at h
def dEq (a b : Dt) : Option Dt := if okPy a && okPy b then some (.bl (eqvD a b)) else none
def dNe (a b : Dt) : Option Dt := if okPy a && okPy b then some (.bl (!eqvD a b)) else none
theorem okPy_some {a : Dt} (h : okPy a = true) : ∃ p, toPy a = some p ∧ SeqAt.shaped p = true := by
  unfold okPy at h
  cases e : toPy a with
  | none => rw [e] at h; cases h
  | some p => rw [e] at h; exact ⟨p, rfl, h⟩
theorem opd_eq : OpD K mg (rEqD K) dEq := by
  intro own H a b x y d Q ra rb hf h
  unfold dEq at hf
  split at hf
  · rename_i hc
    cases hf
    obtain ⟨h1, h2⟩ := Bool.and_eq_true_iff.mp hc
    obtain ⟨p, e1, s1⟩ := okPy_some h1
    obtain ⟨q, e2, s2⟩ := okPy_some h2
    refine ⟨p, q, dp_pk ra e1, dp_pk rb e2, s1, s2, ?_⟩
    have : eqvD a b = PyData.eqv p q := by unfold eqvD; rw [e1, e2]
    rw [← this]
    exact flat_end h (rep_bl _)
  · cases hf
theorem opd_ne : OpD K mg (rNeD K) dNe := by
  intro own H a b x y d Q ra rb hf h
  unfold dNe at hf
  split at hf
  · rename_i hc
    cases hf
    obtain ⟨h1, h2⟩ := Bool.and_eq_true_iff.mp hc
    obtain ⟨p, e1, s1⟩ := okPy_some h1
    obtain ⟨q, e2, s2⟩ := okPy_some h2
    refine ⟨p, q, dp_pk ra e1, dp_pk rb e2, s1, s2, ?_⟩
    have : eqvD a b = PyData.eqv p q := by unfold eqvD; rw [e1, e2]
    rw [← this]
    exact flat_end h (rep_bl _)
  · cases hf
/-! ### keys -/
mutual
def sameK : Dt → Dt → Bool
  | .int i, .int j => i == j
  | .str s, .str t => s == t
  | .tup s, .tup t => sameKL s t
  | _, _ => false
def sameKL : List Dt → List Dt → Bool
  | [], [] => true
  | a :: s, b :: t => sameK a b && sameKL s t
  | _, _ => false
end
def dget (kvs : List (Dt × Dt)) (k : Dt) : Option Dt := match kvs with
  | [] => none
  | (j, v) :: r => if sameK j k then some v else dget r k
theorem mkS_inj {s t : List Nat} (h : mkS s = mkS t) : s = t := by
  have := congrArg (fun z : Str => z.cps.toList) h
  simpa [mkS] using this
theorem keyOf_same {a b : Dt} {j k : Key} (ha : keyOf a = some j) (hb : keyOf b = some k) : sameK a b = decide (j = k) := by
  cases a <;> simp only [keyOf] at ha <;> cases ha <;> cases b <;> simp only [keyOf] at hb <;> cases hb
  · rename_i i i'; simp [sameK]; rw [Bool.eq_iff_iff]; simp
  · simp [sameK]
  · simp [sameK]
  · rename_i s t
    simp only [sameK]
    rw [Bool.eq_iff_iff]
    simp only [beq_iff_eq, decide_eq_true_eq]
    exact ⟨fun e => by rw [e], fun e => mkS_inj (Sum.inr.inj e)⟩
theorem keysOf_same : ∀ {a b : List Dt} {j k : List Key}, keysOf a = some j → keysOf b = some k → sameKL a b = decide (j = k)
  | [], [], _, _, ha, hb => by simp only [keysOf] at ha hb; cases ha; cases hb; rfl
  | [], d :: r, _, _, ha, hb => by
    simp only [keysOf] at ha hb
    cases ha
    split at hb
    · cases hb; simp [sameKL]
    · cases hb
  | d :: r, [], _, _, ha, hb => by
    simp only [keysOf] at ha hb
    cases hb
    split at ha
    · cases ha; simp [sameKL]
    · cases ha
  | d :: r, e :: q, _, _, ha, hb => by
    simp only [keysOf] at ha hb
    split at ha
    · rename_i k1 ks1 h1 h2
      cases ha
      split at hb
      · rename_i k2 ks2 h3 h4
        cases hb
        simp only [sameKL]
        rw [keyOf_same h1 h3, keysOf_same h2 h4]
        by_cases e1 : k1 = k2 <;> by_cases e2 : ks1 = ks2 <;> simp [e1, e2]
      · cases hb
    · cases ha
theorem tkeyOf_same {a b : Dt} {j k : List Key} (ha : tkeyOf a = some j) (hb : tkeyOf b = some k) : sameK a b = decide (j = k) := by
  cases a <;> simp only [tkeyOf] at ha <;> try cases ha
  cases b <;> simp only [tkeyOf] at hb <;> try cases hb
  simp only [sameK]
  exact keysOf_same ha hb
/-- what a dict's object holds at a key -/
theorem dget_val {κ : Type} [DecidableEq κ] {kf : Dt → Option κ} (hs : ∀ {a b j k}, kf a = some j → kf b = some k → sameK a b = decide (j = k)) {own : Own} {H : Hp} {y : Dt} {k : κ} (hk : kf y = some k) :
    ∀ {kvs : List (Dt × Dt)} {q : List (κ × V)}, (kvs.map fun p => kf p.1) = (q.map fun p => some p.1) → RepP K mg own H kvs (q.map (·.2)) →
      (∀ v, dget kvs y = some v → ∃ x, valV q k = some x ∧ RepD K mg own H v x) ∧ (dget kvs y = none → valV q k = none)
  | [], [], _, _ => ⟨fun v e => by simp [dget] at e, fun _ => rfl⟩
  | [], _ :: _, e, _ => by simp at e
  | _ :: _, [], e, _ => by simp at e
  | (j, v) :: kvs, (j', x) :: q, e, r => by
    simp only [List.map_cons, List.cons.injEq] at e
    obtain ⟨e1, e2⟩ := e
    simp only [List.map_cons, RepP] at r
    obtain ⟨x', r', e3, r1, r2⟩ := r
    injection e3 with e4 e5
    subst e4 e5
    have hj := hs e1 hk
    have ih := dget_val hs hk e2 r2
    by_cases h : j' = k
    · have h' : sameK j y = true := by rw [hj]; exact decide_eq_true h
      refine ⟨fun w e => ?_, fun e => ?_⟩
      · simp only [dget, h', if_true] at e
        cases e
        exact ⟨x, by rw [valV_pos h], r1⟩
      · simp only [dget, h', if_true] at e
        cases e
    · have h' : sameK j y = false := by rw [hj]; exact decide_eq_false h
      refine ⟨fun w e => ?_, fun e => ?_⟩
      · simp only [dget, h'] at e
        rw [valV_neg h]
        exact ih.1 w e
      · simp only [dget, h'] at e
        rw [valV_neg h]
        exact ih.2 e
/-- may a dict of this kind be asked for this key -/
def kindOk (kd : Nat) (y : Dt) : Bool := match kd with
  | 0 => (keyOf y).isSome
  | 1 => (tkeyOf y).isSome
  | _ => false
theorem keyOf_tup {ds : List Dt} {k : Key} (h : keyOf (.tup ds) = some k) : False := by simp [keyOf] at h
theorem tkeyOf_tup {d : Dt} {k : List Key} (h : tkeyOf d = some k) : ∃ ds, d = .tup ds ∧ keysOf ds = some k := by
  cases d <;> simp only [tkeyOf] at h <;> first | exact ⟨_, rfl, h⟩ | cases h
theorem keys_vals {own : Own} {H : Hp} : ∀ {ds : List Dt} {xs : List V} {ks : List Key}, RepL K mg own H ds xs → keysOf ds = some ks → xs = ks.map kV
  | [], _, _, h, e => by simp only [RepL] at h; simp only [keysOf] at e; cases e; rw [h]; rfl
  | d :: ds, _, _, h, e => by
    simp only [RepL] at h
    obtain ⟨x, r, e1, h1, h2⟩ := h
    simp only [keysOf] at e
    split at e
    · rename_i k ks h3 h4
      cases e
      rw [e1, keys_vals h2 h4, List.map_cons]
      congr 1
      cases d <;> simp only [keyOf] at h3 <;> cases h3
      · simpa only [RepD, kV] using h1
      · simpa only [RepD, kV] using h1
    · cases e
/-- DGet by data -/
theorem dget_get {own : Own} {H : Hp} {kd : Nat} {kvs : List (Dt × Dt)} {a : Addr} {y : Dt} {u : V} (r : RepO K mg own H (.dic kd kvs) a) (ry : RepPk K mg own H y u) (hk : kindOk kd y = true) :
    (∀ v, dget kvs y = some v → ∃ x, DGet H a u (some x) ∧ RepD K mg own H v x) ∧ (dget kvs y = none → DGet H a u none) := by
  simp only [RepO] at r
  rcases r with ⟨z, q, e, k, p⟩ | ⟨z, q, e, k, p⟩
  · subst z
    obtain ⟨kk, hy⟩ := Option.isSome_iff_exists.mp (show (keyOf y).isSome = true from hk)
    have hu : u = kV kk := by
      cases y <;> simp only [keyOf] at hy <;> cases hy
      · exact pk_int ry
      · exact pk_str ry
    have d := dget_val (fun h1 h2 => keyOf_same h1 h2) hy k p
    subst hu
    refine ⟨fun v hv => ?_, fun hv => ?_⟩
    · obtain ⟨x, e1, r1⟩ := d.1 v hv
      exact ⟨x, by rw [← e1]; exact DGet.k e, r1⟩
    · rw [← d.2 hv]
      exact DGet.k e
  · subst z
    obtain ⟨kk, hy⟩ := Option.isSome_iff_exists.mp (show (tkeyOf y).isSome = true from hk)
    obtain ⟨ds, e1, e2⟩ := tkeyOf_tup hy
    subst e1
    obtain ⟨b, xs, e3, _, kb, rb⟩ := pk_tup ry
    have hx := keys_vals rb e2
    have d := dget_val (fun h1 h2 => tkeyOf_same h1 h2) hy k p
    subst e3 hx
    refine ⟨fun v hv => ?_, fun hv => ?_⟩
    · obtain ⟨x, e1, r1⟩ := d.1 v hv
      exact ⟨x, by rw [← e1]; exact DGet.t e kb, r1⟩
    · rw [← d.2 hv]
      exact DGet.t e kb
end
end DL
end
section
set_option Elab.async false
set_option linter.all false
set_option maxRecDepth 100000
set_option maxHeartbeats 2000000
namespace DL
open PySem PySem.Spec PyProof.Rows L2

/-! ## operands -/
def repQ (K : PySem.W.Frag) (mg : Str → Option Value) (σ : L2.St) : Rp Ar V := fun _ own H a x => repAr K mg σ own H a x
def cQ (K : PySem.W.Frag) (mg : Str → Option Value) (W : WX) (ios : List Nat) (c : C Ar) : TE := canon K mg W ios (fun σ => repQ K mg σ) c
abbrev JQ (X : Cx) (W : WX) (ios : List Nat) (e : Expr) (c : C Ar) : Prop := PE X e (cQ X.K X.mg W ios c)
/-- an operand's data, now -/
def der (a : Ar) : C Dt := fun ρ => match deref a ρ with | some d => .ok d ρ | none => .stuck
section
variable {X : Cx} {W : WX} {ios : List Nat} {e a b : Expr} {es : List Expr} {pos : Pos} {K : PySem.W.Frag} {mg : Str → Option Value}
def cSlot (i : Nat) : C Ar := fun ρ => match ρ[i]? with
  | some (some _) => .ok (.sl i) ρ
  | _ => .stuck
theorem jq_var {i : Nat} {x : Str} (hN : X.N[i]? = some x := by rfl) (hv : Vis X.env.scope x := by first | exact Or.inl rfl | exact Or.inr (Or.inl rfl) | exact Or.inr (Or.inr rfl)) (hd : (x == ("__debug__" : Str)) = false := by decide) (hcd : (x == ("__classdict__" : Str)) = false := by decide) : JQ X W ios (.Name x pos) (cSlot i) := by
  refine pe_imp (pe_var hN hv hd hcd) fun σ H Q ⟨F, own, ρ, hp, he, po⟩ => ?_
  unfold cSlot at po
  cases h : ρ[i]? with
  | none => rw [h] at po; exact po.elim
  | some o =>
    rw [h] at po
    cases o with
    | none => exact po.elim
    | some t =>
      obtain ⟨y, h1, r⟩ := he.slot i t h
      exact ⟨y, h1, po own y H Good.refl he h1⟩
def cD (c : C Dt) : C Ar := bindR c fun d => ret (.d d)
theorem anti_Q {σ : L2.St} : Anti (repQ K mg σ) := fun _ _ _ _ _ _ _ h => h
theorem jq_e {c : C Dt} (h : JE X W ios e c) : JQ X W ios e (cD c) := pe_imp h fun σ H Q ⟨F, own, ρ, hp, he, po⟩ =>
  ⟨F, own, ρ, hp, he, PostR.bind anti_Q po fun own1 x H1 a ρ1 g1 e1 r1 p1 => p1 own1 x H1 Good.refl e1 r1⟩
/-- a name as a value, frozen: by hand of jq_var's premises -/
theorem je_nm {i : Nat} {x : Str} (hN : X.N[i]? = some x := by rfl) (hv : Vis X.env.scope x := by first | exact Or.inl rfl | exact Or.inr (Or.inl rfl) | exact Or.inr (Or.inr rfl)) (hd : (x == ("__debug__" : Str)) = false := by decide) (hcd : (x == ("__classdict__" : Str)) = false := by decide) : JE X W ios (.Name x pos) (cVar i) := je_var hN hv hd hcd
def c2 (f : Dt → Dt → Option Dt) (ca cb : C Ar) : C Dt := bindR ca fun x => bindR cb fun y => bindR (der x) fun p => bindR (der y) fun q => lift (f p q)
theorem post2 {r : R2} {f : Dt → Dt → Option Dt} (hf : OpD K mg r f) {ca cb : C Ar} {σ : L2.St} {H : Hp} {Q : VK} (h : cE K mg W ios (c2 f ca cb) σ H Q) :
    tOp r (cQ K mg W ios ca) (cQ K mg W ios cb) σ H Q := by
  obtain ⟨F, own, ρ, hp, he, po⟩ := h
  refine ⟨F, own, ρ, hp, he, PostR.bind anti_E po fun own1 x H1 a ρ1 g1 e1 r1 p1 => ⟨F, own1, ρ1, hp, e1, PostR.bind anti_E p1 fun own2 y H2 b ρ2 g2 e2 r2 p2 => ?_⟩⟩
  unfold bindR der at p2
  cases h1 : deref a ρ2 with
  | none => rw [h1] at p2; exact p2.elim
  | some p =>
    cases h2 : deref b ρ2 with
    | none => rw [h1] at p2; simp only [h2] at p2; exact p2.elim
    | some q =>
      rw [h1] at p2
      simp only [h2] at p2
      cases h : f p q with
      | none =>
        rw [show lift (f p q) ρ2 = (.stuck : Res Dt) by unfold lift; rw [h]] at p2
        exact p2.elim
      | some d =>
        rw [show lift (f p q) ρ2 = .ok d ρ2 by unfold lift; rw [h]] at p2
        exact hf own2 H2 p q x y d Q (deref_pk e2 (repAr_mono g2 r1) h1) (deref_pk e2 r2 h2) h fun own3 H3 v x3 r3 => p2 own3 v H3 x3.good (e2.ext x3) r3
theorem je_op {op : Operator} {r : R2} {f : Dt → Dt → Option Dt} {ca cb : C Ar} (ho : OpR X (binaryOp op) r) (hf : OpD X.K X.mg r f) (ha : JQ X W ios a ca) (hb : JQ X W ios b cb) : JE X W ios (.BinOp a op b pos) (c2 f ca cb) :=
  pe_imp (pe_op ho ha hb) fun _ _ _ h => post2 hf h
theorem je_cmp {op : CmpOp} {r : R2} {f : Dt → Dt → Option Dt} {ca cb : C Ar} (ho : OpR X (compareOp op) r) (hf : OpD X.K X.mg r f) (ha : JQ X W ios a ca) (hb : JQ X W ios b cb) (hm : behindInMarks op b = false) : JE X W ios (.Compare a [op] [b] pos) (c2 f ca cb) :=
  pe_imp (pe_cmpR ho ha hb hm) fun _ _ _ h => post2 hf h
theorem jt_cmp {op : CmpOp} {r : R2} {f : Dt → Dt → Option Dt} {ca cb : C Ar} (ho : OpR X (compareOp op) r) (hf : OpD X.K X.mg r f) (ha : JQ X W ios a ca) (hb : JQ X W ios b cb) (hm : behindInMarks op b = false) : JT X W ios (.Compare a [op] [b] pos) (isBl (c2 f ca cb)) :=
  pt_imp (pt_cmpR ho ha hb hm) fun σ H Q h => by
    have h2 := post_bl h
    show tOp r _ _ σ H _
    exact post2 hf h2
theorem je_add {ca cb : C Ar} (ha : JQ X W ios a ca) (hb : JQ X W ios b cb) : JE X W ios (.BinOp a .Add b pos) (c2 dAdd ca cb) := je_op op_addA opd_add ha hb
theorem je_mul {ca cb : C Ar} (ha : JQ X W ios a ca) (hb : JQ X W ios b cb) : JE X W ios (.BinOp a .Mult b pos) (c2 dMul ca cb) := je_op op_mulA opd_mul ha hb
theorem je_sub {ca cb : C Ar} (ha : JQ X W ios a ca) (hb : JQ X W ios b cb) : JE X W ios (.BinOp a .Sub b pos) (c2 dSub ca cb) := je_op op_sub opd_sub ha hb
theorem je_mod {ca cb : C Ar} (ha : JQ X W ios a ca) (hb : JQ X W ios b cb) : JE X W ios (.BinOp a .Mod b pos) (c2 dMod ca cb) := je_op op_mod opd_mod ha hb
theorem je_fdv {ca cb : C Ar} (ha : JQ X W ios a ca) (hb : JQ X W ios b cb) : JE X W ios (.BinOp a .FloorDiv b pos) (c2 dFdv ca cb) := je_op op_fdiv opd_fdv ha hb
theorem je_pow {ca cb : C Ar} (ha : JQ X W ios a ca) (hb : JQ X W ios b cb) : JE X W ios (.BinOp a .Pow b pos) (c2 dPow ca cb) := je_op op_pow opd_pow ha hb

/-! ## comparisons, as values and as tests -/
section
variable {ca cb : C Ar}
theorem je_lt (ha : JQ X W ios a ca) (hb : JQ X W ios b cb) : JE X W ios (.Compare a [.Lt] [b] pos) (c2 dLt ca cb) := je_cmp op_ltA opd_lt ha hb (nomark _)
theorem je_le (ha : JQ X W ios a ca) (hb : JQ X W ios b cb) : JE X W ios (.Compare a [.LtE] [b] pos) (c2 dLe ca cb) := je_cmp op_le opd_le ha hb (nomark _)
theorem je_gt (ha : JQ X W ios a ca) (hb : JQ X W ios b cb) : JE X W ios (.Compare a [.Gt] [b] pos) (c2 dGt ca cb) := je_cmp op_gt opd_gt ha hb (nomark _)
theorem je_ge (ha : JQ X W ios a ca) (hb : JQ X W ios b cb) : JE X W ios (.Compare a [.GtE] [b] pos) (c2 dGe ca cb) := je_cmp op_ge opd_ge ha hb (nomark _)
theorem je_is (ha : JQ X W ios a ca) (hb : JQ X W ios b cb) : JE X W ios (.Compare a [.Is] [b] pos) (c2 dIsN ca cb) := je_cmp op_isN opd_isN ha hb (nomark _)
theorem je_isnot (ha : JQ X W ios a ca) (hb : JQ X W ios b cb) : JE X W ios (.Compare a [.IsNot] [b] pos) (c2 dNotN ca cb) := je_cmp op_notN opd_notN ha hb (nomark _)
theorem je_eq (hu : X.A.units + 64 < cLine) (ha : JQ X W ios a ca) (hb : JQ X W ios b cb) : JE X W ios (.Compare a [.Eq] [b] pos) (c2 dEq ca cb) := je_cmp (op_eqD hu) opd_eq ha hb (nomark _)
theorem je_ne (hu : X.A.units + 64 < cLine) (ha : JQ X W ios a ca) (hb : JQ X W ios b cb) : JE X W ios (.Compare a [.NotEq] [b] pos) (c2 dNe ca cb) := je_cmp (op_neD hu) opd_ne ha hb (nomark _)
theorem jt_lt (ha : JQ X W ios a ca) (hb : JQ X W ios b cb) : JT X W ios (.Compare a [.Lt] [b] pos) (isBl (c2 dLt ca cb)) := jt_cmp op_ltA opd_lt ha hb (nomark _)
theorem jt_le (ha : JQ X W ios a ca) (hb : JQ X W ios b cb) : JT X W ios (.Compare a [.LtE] [b] pos) (isBl (c2 dLe ca cb)) := jt_cmp op_le opd_le ha hb (nomark _)
theorem jt_gt (ha : JQ X W ios a ca) (hb : JQ X W ios b cb) : JT X W ios (.Compare a [.Gt] [b] pos) (isBl (c2 dGt ca cb)) := jt_cmp op_gt opd_gt ha hb (nomark _)
theorem jt_ge (ha : JQ X W ios a ca) (hb : JQ X W ios b cb) : JT X W ios (.Compare a [.GtE] [b] pos) (isBl (c2 dGe ca cb)) := jt_cmp op_ge opd_ge ha hb (nomark _)
theorem jt_is (ha : JQ X W ios a ca) (hb : JQ X W ios b cb) : JT X W ios (.Compare a [.Is] [b] pos) (isBl (c2 dIsN ca cb)) := jt_cmp op_isN opd_isN ha hb (nomark _)
theorem jt_isnot (ha : JQ X W ios a ca) (hb : JQ X W ios b cb) : JT X W ios (.Compare a [.IsNot] [b] pos) (isBl (c2 dNotN ca cb)) := jt_cmp op_notN opd_notN ha hb (nomark _)
theorem jt_eq (hu : X.A.units + 64 < cLine) (ha : JQ X W ios a ca) (hb : JQ X W ios b cb) : JT X W ios (.Compare a [.Eq] [b] pos) (isBl (c2 dEq ca cb)) := jt_cmp (op_eqD hu) opd_eq ha hb (nomark _)
theorem jt_ne (hu : X.A.units + 64 < cLine) (ha : JQ X W ios a ca) (hb : JQ X W ios b cb) : JT X W ios (.Compare a [.NotEq] [b] pos) (isBl (c2 dNe ca cb)) := jt_cmp (op_neD hu) opd_ne ha hb (nomark _)
end
end

/-! ## membership -/
section
variable {K : PySem.W.Frag} {mg : Str → Option Value}
def rInDic : R2 := fun x y H Q => ∃ a o, y = .ref a ∧ DGet H a x o ∧ Q (.bl o.isSome) H
def rNotInDic : R2 := fun x y H Q => ∃ a o, y = .ref a ∧ DGet H a x o ∧ Q (.bl (!o.isSome)) H
theorem op_inDic {X : Cx} (hu : X.A.units + 1 < cLine) : OpR X (compareOp .In) rInDic := by
  intro pins s σ H x y v u Q I rx ry ⟨a, o, e, g, q⟩
  subst e
  obtain rfl : u = Value.ref a := ry
  exact d_in hu I g rx fun s' I' => ⟨.bl _, H, I', rfl, q⟩
theorem op_notInDic {X : Cx} (hu : X.A.units + 1 < cLine) : OpR X (compareOp .NotIn) rNotInDic := by
  intro pins s σ H x y v u Q I rx ry ⟨a, o, e, g, q⟩
  subst e
  obtain rfl : u = Value.ref a := ry
  exact d_notIn hu I g rx fun s' I' => ⟨.bl _, H, I', rfl, q⟩
/-- flat data -/
def flatD : Dt → Bool
  | .non => true | .bl _ => true | .int _ => true | .str _ => true | _ => false
def isMem (x : Dt) (ds : List Dt) : Bool := ds.any fun y => eqvD y x
def isIn (x y : Dt) : Option Bool := match y with
  | .str t => (match x with | .str [c] => some (decide (c ∈ t)) | _ => none)
  | .lst ds => if okPy x && okPy (.lst ds) then some (isMem x ds) else none
  | .tup ds => if flatD x && ds.all flatD then some (isMem x ds) else none
  | .dic kd kvs => if kindOk kd x then some (dget kvs x).isSome else none
  | _ => none
def dIn (x y : Dt) : Option Dt := (isIn x y).map .bl
def dNotIn (x y : Dt) : Option Dt := (isIn x y).map fun b => .bl (!b)
theorem flat_rep {own : Own} {H : Hp} {d : Dt} {x : V} (f : flatD d = true) (h : RepD K mg own H d x) : flatV x = true := by
  cases d <;> simp only [flatD] at f <;> first | (simp only [RepD] at h; subst h; rfl) | cases f
theorem eqvD_flat {own : Own} {H : Hp} {a b : Dt} {x y : V} (fa : flatD a = true) (fb : flatD b = true) (ra : RepD K mg own H a x) (rb : RepD K mg own H b y) : eqV x y = eqvD a b := by
  have e2 : ∀ s t : List Nat, (mkS s == mkS t) = decide (mkS s = mkS t) := fun s t => by rw [Bool.eq_iff_iff]; simp
  cases a <;> simp only [flatD] at fa <;> (first | cases fa | skip) <;> cases b <;> simp only [flatD] at fb <;> (first | cases fb | skip) <;> simp only [RepD] at ra rb <;> subst ra <;> subst rb <;>
    simp only [eqvD, toPy, PyData.eqv, eqV] <;> first | rfl | simp | (simp [e2]) | skip

theorem flat_py {d : Dt} (f : flatD d = true) : (toPy d).isSome = true := by
  cases d <;> simp only [flatD] at f <;> first | rfl | cases f
theorem pk_flat {own : Own} {H : Hp} {d : Dt} {x : V} (f : flatD d = true) (h : RepPk K mg own H d x) : RepD K mg own H d x := by
  rcases h with h | ⟨a, i, _, _, h⟩
  · exact h
  · cases d <;> first | (simp only [RepO] at h; done) | (exact absurd (show false = true from f) Bool.false_ne_true)
theorem flat_mem {own : Own} {H : Hp} {d : Dt} {x : V} (fx : flatD d = true) (rx : RepD K mg own H d x) : ∀ {ds : List Dt} {xs : List V}, RepL K mg own H ds xs → ds.all flatD = true → inV x xs = isMem d ds ∧ xs.all flatV = true
  | [], _, r, _ => by simp only [RepL] at r; subst r; exact ⟨rfl, rfl⟩
  | e :: ds, _, r, f => by
    simp only [RepL] at r
    obtain ⟨y, q, e1, r1, r2⟩ := r
    subst e1
    obtain ⟨f1, f2⟩ := Bool.and_eq_true_iff.mp (by simpa only [List.all_cons] using f)
    obtain ⟨h1, h2⟩ := flat_mem fx rx r2 f2
    refine ⟨?_, ?_⟩
    · show (eqV y x || inV x q) = (eqvD e d || isMem d ds)
      rw [h1, eqvD_flat f1 fx r1 rx]
    · rw [List.all_cons, flat_rep f1 r1, h2]
      rfl
theorem isMem_py {d : Dt} {p : PyData} (hd : toPy d = some p) : ∀ {ds : List Dt} {q : List PyData}, toPyL ds = some q → isMem d ds = q.any fun z => PyData.eqv z p
  | [], _, e => by simp only [toPyL] at e; cases e; rfl
  | e :: ds, _, h => by
    simp only [toPyL] at h
    split at h
    · rename_i p1 q1 h1 h2
      cases h
      show (eqvD e d || isMem d ds) = _
      rw [isMem_py hd h2, List.any_cons]
      congr 1
      unfold eqvD
      rw [h1, hd]
    · cases h
def rInA (K : PySem.W.Frag) : R2 := fun x y H Q => ((fun x y H Q => ∃ (c : Nat) (z : Str), x = .str ⟨#[c]⟩ ∧ y = .str z ∧ Q (.bl (decide (c ∈ z.cps.toList))) H) x y H Q ∨ rInD K x y H Q) ∨ (rIn K false x y H Q ∨ rInDic x y H Q)
def rNotInA (K : PySem.W.Frag) : R2 := fun x y H Q => ((fun x y H Q => ∃ (c : Nat) (z : Str), x = .str ⟨#[c]⟩ ∧ y = .str z ∧ Q (.bl (!decide (c ∈ z.cps.toList))) H) x y H Q ∨ rNotInD K x y H Q) ∨ (rIn K true x y H Q ∨ rNotInDic x y H Q)
theorem op_inA {X : Cx} (hu : X.A.units + 65 < cLine) : OpR X (compareOp .In) (rInA X.K) := (op_in_sign.or (op_inD hu)).or (op_in_seq.or (op_inDic (by omega)))
theorem op_notInA {X : Cx} (hu : X.A.units + 65 < cLine) : OpR X (compareOp .NotIn) (rNotInA X.K) := (op_notIn_sign.or (op_notInD hu)).or (op_notIn_seq.or (op_notInDic (by omega)))
theorem in_cases {own : Own} {H : Hp} {a b : Dt} {x y : V} {k : Bool} (ra : RepPk K mg own H a x) (rb : RepPk K mg own H b y) (h : isIn a b = some k) :
    (∃ (c : Nat) (z : Str), x = .str ⟨#[c]⟩ ∧ y = .str z ∧ k = decide (c ∈ z.cps.toList)) ∨ (∃ d ds, Dp K H x d ∧ Dp K H y (.list ds) ∧ SeqAt.shaped d = true ∧ SeqAt.shaped (.list ds) = true ∧ k = ds.any fun z => PyData.eqv z d) ∨
    (∃ p xs, y = .ref p ∧ (SqL K H p xs ∨ SqT K H p xs) ∧ flatV x = true ∧ xs.all flatV = true ∧ k = inV x xs) ∨ ∃ p o, y = .ref p ∧ DGet H p x o ∧ k = o.isSome := by
  unfold isIn at h
  split at h
  · split at h
    · cases h
      exact .inl ⟨_, _, pk_str ra, pk_str rb, rfl⟩
    · cases h
  · rename_i ds
    split at h
    · rename_i hc
      cases h
      obtain ⟨h1, h2⟩ := Bool.and_eq_true_iff.mp hc
      obtain ⟨p, e1, s1⟩ := okPy_some h1
      obtain ⟨q, e2, s2⟩ := okPy_some h2
      have e2' := e2
      simp only [toPy] at e2
      cases e3 : toPyL ds with
      | none => rw [e3] at e2; cases e2
      | some q' =>
        rw [e3] at e2
        cases e2
        exact .inr (.inl ⟨p, q', dp_pk ra e1, dp_pk rb e2', s1, s2, isMem_py e1 e3⟩)
    · cases h
  · rename_i ds
    split at h
    · rename_i hc
      cases h
      obtain ⟨h1, h2⟩ := Bool.and_eq_true_iff.mp hc
      obtain ⟨p, xs, e, _, kk, r⟩ := pk_tup rb
      have ra' := pk_flat h1 ra
      obtain ⟨m1, m2⟩ := flat_mem h1 ra' r h2
      exact .inr (.inr (.inl ⟨p, xs, e, .inr (SqT.of kk), flat_rep h1 ra', m2, m1.symm⟩))
    · cases h
  · rename_i kd kvs
    split at h
    · rename_i hc
      cases h
      obtain ⟨p, e, r⟩ := pk_dic rb
      obtain ⟨g1, g2⟩ := dget_get r ra hc
      cases hv : dget kvs a with
      | none => exact .inr (.inr (.inr ⟨p, _, e, g2 hv, rfl⟩))
      | some v =>
        obtain ⟨z, gz, _⟩ := g1 v hv
        exact .inr (.inr (.inr ⟨p, _, e, gz, rfl⟩))
    · cases h
  · cases h
theorem opd_in : OpD K mg (rInA K) dIn := by
  intro own H a b x y d Q ra rb hf h
  unfold dIn at hf
  cases hk : isIn a b with
  | none => rw [hk] at hf; cases hf
  | some k =>
    rw [hk] at hf
    cases hf
    have q : Q (.bl k) H := flat_end h (rep_bl k)
    rcases in_cases ra rb hk with ⟨c, z, e1, e2, e3⟩ | ⟨p, ds, e1, e2, e3, e4, e5⟩ | ⟨p, xs, e1, e2, e3, e4, e5⟩ | ⟨p, o, e1, e2, e3⟩
    · exact .inl (.inl ⟨c, z, e1, e2, by rw [← e3]; exact q⟩)
    · exact .inl (.inr ⟨p, ds, e1, e2, e3, e4, by rw [← e5]; exact q⟩)
    · exact .inr (.inl ⟨p, xs, e1, e2, e3, e4, by rw [if_neg Bool.false_ne_true, ← e5]; exact q⟩)
    · exact .inr (.inr ⟨p, o, e1, e2, by rw [← e3]; exact q⟩)
theorem opd_notIn : OpD K mg (rNotInA K) dNotIn := by
  intro own H a b x y d Q ra rb hf h
  unfold dNotIn at hf
  cases hk : isIn a b with
  | none => rw [hk] at hf; cases hf
  | some k =>
    rw [hk] at hf
    cases hf
    have q : Q (.bl (!k)) H := flat_end h (rep_bl _)
    rcases in_cases ra rb hk with ⟨c, z, e1, e2, e3⟩ | ⟨p, ds, e1, e2, e3, e4, e5⟩ | ⟨p, xs, e1, e2, e3, e4, e5⟩ | ⟨p, o, e1, e2, e3⟩
    · exact .inl (.inl ⟨c, z, e1, e2, by rw [← e3]; exact q⟩)
    · exact .inl (.inr ⟨p, ds, e1, e2, e3, e4, by rw [← e5]; exact q⟩)
    · exact .inr (.inl ⟨p, xs, e1, e2, e3, e4, by rw [if_pos rfl, ← e5]; exact q⟩)
    · exact .inr (.inr ⟨p, o, e1, e2, by rw [← e3]; exact q⟩)
end
section
variable {X : Cx} {W : WX} {ios : List Nat} {a b : Expr} {pos : Pos} {ca cb : C Ar}
theorem je_in (hu : X.A.units + 65 < cLine) (ha : JQ X W ios a ca) (hb : JQ X W ios b cb) (hm : behindInMarks .In b = false := by rfl) : JE X W ios (.Compare a [.In] [b] pos) (c2 dIn ca cb) := je_cmp (op_inA hu) opd_in ha hb hm
theorem je_notin (hu : X.A.units + 65 < cLine) (ha : JQ X W ios a ca) (hb : JQ X W ios b cb) (hm : behindInMarks .NotIn b = false := by rfl) : JE X W ios (.Compare a [.NotIn] [b] pos) (c2 dNotIn ca cb) := je_cmp (op_notInA hu) opd_notIn ha hb hm
theorem jt_in (hu : X.A.units + 65 < cLine) (ha : JQ X W ios a ca) (hb : JQ X W ios b cb) (hm : behindInMarks .In b = false := by rfl) : JT X W ios (.Compare a [.In] [b] pos) (isBl (c2 dIn ca cb)) := jt_cmp (op_inA hu) opd_in ha hb hm
theorem jt_notin (hu : X.A.units + 65 < cLine) (ha : JQ X W ios a ca) (hb : JQ X W ios b cb) (hm : behindInMarks .NotIn b = false := by rfl) : JT X W ios (.Compare a [.NotIn] [b] pos) (isBl (c2 dNotIn ca cb)) := jt_cmp (op_notInA hu) opd_notIn ha hb hm
end
end DL
end
section
set_option Elab.async false
set_option linter.all false
set_option maxRecDepth 100000
set_option maxHeartbeats 2000000
namespace DL
open PySem PySem.Spec PyProof.Rows L2
section
variable {K : PySem.W.Frag} {mg : Str → Option Value}
/-! ## subscripts, slices -/
theorem RepL.atI {own : Own} {H : Hp} {ds : List Dt} {xs : List V} {i : Int} {d : Dt} (r : RepL K mg own H ds xs) (h : L2.atI ds i = some d) : ∃ x, L2.atI xs i = some x ∧ RepD K mg own H d x := by
  unfold L2.atI at h ⊢
  rw [r.length]
  cases e : ixN ds.length i with
  | none => rw [e] at h; cases h
  | some j =>
    rw [e] at h
    exact r.get (i := j) h
def dIx : Dt → Dt → Option Dt
  | .lst ds, .int i => atI ds i
  | .tup ds, .int i => atI ds i
  | .str s, .int i => if fits s.length then (atI s i).map fun c => .str [c] else none
  | .scr ns, .int i => (atI ns i).map .int
  | .dic kd kvs, k => if kindOk kd k then dget kvs k else none
  | _, _ => none
def rIxDic : R2 := fun x y H Q => ∃ a v, x = .ref a ∧ DGet H a y (some v) ∧ Q v H
def rIxA (K : PySem.W.Frag) : R2 := fun x y H Q => rIx K x y H Q ∨ rIxDic x y H Q
theorem ix_dic {X : Cx} (hu : X.A.units + 1 < cLine) : IxR X rIxDic := by
  intro value slice pins s σ H x y v u Q I rx ry ⟨a, w, e, g, q⟩ hs
  subst e
  obtain rfl : v = Value.ref a := rx
  unfold subscriptTail
  refine wpAny_bind ?_
  rw [getitemInPython_of_ne (dict_typeIs I g).not_modules]
  refine wpAny_bind (wpAny_specialOf (dict_typeIs I g) PySem.F.slot_dict_getitem.lookup ?_)
  have fin : wpAny (model X.prog X.w) X.A (subscripted slice false (.ref a) u) (fun r s₃ => wpAny (model X.prog X.w) X.A (letTemporaryGo value (.ref a) r >>= fun _ => pure r) (EP X pins σ Q) X.xe s₃) X.xe s := by
    rw [hs]
    exact wpAny_operating (wpAny_mono (d_getItem (Q := EP X pins σ Q) hu I g ry fun w' s3 I3 rw' => ⟨w, H, I3, rw', q⟩) (fun r s₃ h₃ => wpAny_bind (wpAny_letTemporaryGo (wpAny_pure h₃))) fun _ _ x => x)
  first
    | exact wpAny_pure (wpAny_bind fin)
    | exact wpAny_bind (wpAny_pure (wpAny_bind fin))
    | exact wpAny_bind fin
theorem ix_all {X : Cx} (hu : X.A.units + 1 < cLine) : IxR X (rIxA X.K) := ix_seq.or (ix_dic hu)
theorem opd_ix : OpD K mg (rIxA K) dIx := by
  intro own H a b x y d Q ra rb hf h
  unfold dIx at hf
  split at hf
  · obtain ⟨p, xs, e, k, r⟩ := pk_lst ra
    obtain ⟨v, hv, rv⟩ := r.atI hf
    exact .inl (.inl ⟨p, xs, _, v, e, pk_int rb, SqL.of k, hv, flat_end h rv⟩)
  · obtain ⟨p, xs, e, _, k, r⟩ := pk_tup ra
    obtain ⟨v, hv, rv⟩ := r.atI hf
    exact .inl (.inr (.inl ⟨p, xs, _, v, e, pk_int rb, SqT.of k, hv, flat_end h rv⟩))
  · rename_i s i
    split at hf
    · rename_i hz
      cases hc : L2.atI s i with
      | none => rw [hc] at hf; cases hf
      | some c =>
        rw [hc] at hf
        cases hf
        exact .inl (.inr (.inr ⟨mkS s, i, c, pk_str ra, pk_int rb, by rw [mkS_len]; exact fits_le hz, hc, flat_end h (rep_str' rfl)⟩))
    · cases hf
  · rename_i ns i
    cases hc : L2.atI ns i with
    | none => rw [hc] at hf; cases hf
    | some c =>
      rw [hc] at hf
      cases hf
      obtain ⟨p, e, k⟩ := pk_scr ra
      refine .inl (.inl ⟨p, ns.map V.int, i, .int c, e, pk_int rb, k, ?_, flat_end h (rep_int _)⟩)
      unfold L2.atI at hc ⊢
      rw [List.length_map]
      cases e2 : ixN ns.length i with
      | none => rw [e2] at hc; cases hc
      | some j =>
        rw [e2] at hc
        show (ns.map V.int)[j]? = some (V.int c)
        rw [List.getElem?_map, show ns[j]? = some c from hc]
        rfl
  · rename_i kd kvs
    split at hf
    · rename_i hc
      obtain ⟨p, e, r⟩ := pk_dic ra
      obtain ⟨z, gz, rz⟩ := (dget_get r rb hc).1 _ hf
      exact .inr ⟨p, z, e, gz, flat_end h rz⟩
    · cases hf
  · cases hf
def cutD {α : Type} (xs : List α) (lo hi : Option Int) : List α := (xs.drop (HT.sIx xs.length 0 lo)).take (HT.sIx xs.length xs.length hi - HT.sIx xs.length 0 lo)
def dSl (d : Dt) (lo hi : Option Int) : Option Dt := match d with
  | .lst ds => some (.lst (cutD ds lo hi))
  | .tup ds => some (.tup (cutD ds lo hi))
  | .str s => if fits s.length then some (.str (cutD s lo hi)) else none
  | _ => none
theorem RepL.cut {own : Own} {H : Hp} {ds : List Dt} {xs : List V} (r : RepL K mg own H ds xs) (lo hi : Option Int) : RepL K mg own H (cutD ds lo hi) (cutV xs lo hi) := by
  unfold cutD cutV
  rw [r.length]
  exact (r.drop _).take _
def rSlAll (K : PySem.W.Frag) : V → Option Int → Option Int → Hp → VK → Prop := fun x lo hi H Q => rSlL K x lo hi H Q ∨ (rSlA K x lo hi H Q ∨ rSlS x lo hi H Q)
theorem sl_all {X : Cx} : SlR X (rSlAll X.K) := sl_list.or (sl_tupA.or sl_str)
theorem sIx_whole {n : Nat} {lo hi : Option Int} (h : HT.sIx n 0 lo = 0 ∧ HT.sIx n n hi = n) {α : Type} {xs : List α} (e : xs.length = n) : cutD xs lo hi = xs := by
  unfold cutD
  rw [e, h.1, h.2]
  simp [← e]
theorem sl_end {own : Own} {H : Hp} {d : Dt} {x : V} {lo hi : Option Int} {d' : Dt} {Q : VK} (ra : RepPk K mg own H d x) (hf : dSl d lo hi = some d') (h : ∀ own' H' v, Ext own H own' H' → RepD K mg own' H' d' v → Q v H') : rSlAll K x lo hi H Q := by
  unfold dSl at hf
  split at hf
  · cases hf
    obtain ⟨p, xs, e, k, r⟩ := pk_lst ra
    exact .inl ⟨p, xs, e, SqL.of k, new_lst (r.cut lo hi) h⟩
  · cases hf
    obtain ⟨p, xs, e, f, k, r⟩ := pk_tup ra
    refine .inr (.inl ⟨p, xs, e, SqT.of k, fun hw => ?_, fun _ => new_tup (r.cut lo hi) h⟩)
    rw [sIx_whole (by rw [r.length] at hw; exact hw) rfl] at h
    exact flat_end h (by simp only [RepD]; exact ⟨p, xs, rfl, f, k, r⟩)
  · rename_i s
    split at hf
    · rename_i hz
      cases hf
      refine .inr (.inr ⟨mkS s, pk_str ra, by rw [mkS_len]; exact fits_le hz, flat_end h (rep_str' ?_)⟩)
      unfold cutS cutD mkS
      have : (mkS s).length = s.length := mkS_len s
      unfold mkS at this
      rw [this]
    · cases hf
  · cases hf
end
section
variable {X : Cx} {W : WX} {ios : List Nat} {e a b : Expr} {es : List Expr} {pos p2 : Pos}
theorem je_ix (hu : X.A.units + 1 < cLine) {ca cb : C Ar} (ha : JQ X W ios a ca) (hb : JQ X W ios b cb) (hs : PlainIx b := by intro _ _; rfl) : JE X W ios (.Subscript a b pos) (c2 dIx ca cb) :=
  pe_imp (pe_ix (ix_all hu) ha hb hs) fun _ _ _ h => post2 opd_ix h
/-! the parts of a slice -/
def repO : Rp (Option Int) (Option Int) := fun _ _ _ a b => a = b
theorem anti_O : Anti repO := fun _ _ _ _ _ _ _ h => h
def cO (K : PySem.W.Frag) (mg : Str → Option Value) (W : WX) (ios : List Nat) (c : C (Option Int)) : TO := canon K mg W ios (fun _ => repO) c
abbrev JO (X : Cx) (W : WX) (ios : List Nat) (e : Option Expr) (c : C (Option Int)) : Prop := PO X e (cO X.K X.mg W ios c)
theorem po_imp {o : Option Expr} {t t' : TO} (h : PO X o t) (i : ∀ σ H Q, t' σ H Q → t σ H Q) : PO X o t' := ⟨fun pins s σ H Q I q => h.run pins s σ H Q I (i σ H Q q)⟩
theorem jo_none : JO X W ios none (ret none) := po_imp po_none fun σ H Q ⟨F, own, ρ, hp, he, po⟩ => po own none H Good.refl he rfl
def cPart (c : C Dt) : C (Option Int) := bindR c fun d => match d with | .int i => ret (some i) | _ => lift none
theorem jo_some {c : C Dt} (h : JE X W ios e c) : JO X W ios (some e) (cPart c) := po_imp (po_some h) fun σ H Q ⟨F, own, ρ, hp, he, po⟩ => by
  refine ⟨F, own, ρ, hp, he, PostR.bind anti_O po fun own1 x H1 a ρ1 g1 e1 r1 p1 => ?_⟩
  cases a with
  | int i => exact ⟨i, by simpa only [repE, RepD] using r1, p1 own1 _ H1 Good.refl e1 rfl⟩
  | _ => exact p1.elim
def cSl (ca : C Ar) (cl ch : C (Option Int)) : C Dt := bindR ca fun x => bindR cl fun l => bindR ch fun u => bindR (der x) fun d => lift (dSl d l u)
theorem je_sl {ca : C Ar} {lo hi : Option Expr} {cl ch : C (Option Int)} (ha : JQ X W ios a ca) (hl : JO X W ios lo cl) (hh : JO X W ios hi ch) : JE X W ios (.Subscript a (.Slice lo hi none p2) pos) (cSl ca cl ch) :=
  pe_imp (pe_slice sl_all ha hl hh) fun σ H Q ⟨F, own, ρ, hp, he, po⟩ => by
    refine ⟨F, own, ρ, hp, he, PostR.bind anti_E po fun own1 x H1 a ρ1 g1 e1 r1 p1 => ⟨F, own1, ρ1, hp, e1, PostR.bind anti_E p1 fun own2 y H2 l ρ2 g2 e2 r2 p2 => ⟨F, own2, ρ2, hp, e2, PostR.bind anti_E p2 fun own3 z H3 u ρ3 g3 e3 r3 p3 => ?_⟩⟩⟩
    obtain rfl : l = y := r2
    obtain rfl : u = z := r3
    unfold bindR der at p3
    cases h1 : deref a ρ3 with
    | none => rw [h1] at p3; exact p3.elim
    | some d =>
      rw [h1] at p3
      cases h2 : dSl d l u with
      | none =>
        simp only [lift, h2] at p3
        exact p3.elim
      | some d' =>
        simp only [lift, h2] at p3
        exact sl_end (deref_pk e3 (repAr_mono (g2.trans g3) r1) h1) h2 fun own' H' v x4 r4 => p3 own' v H' x4.good (e3.ext x4) r4
/-! ## displays -/
def repLst (K : PySem.W.Frag) (mg : Str → Option Value) : Rp (List Dt) (List V) := fun _ own H ds xs => RepL K mg own H ds xs
theorem anti_L {K : PySem.W.Frag} {mg : Str → Option Value} : Anti (repLst K mg) := fun _ _ _ _ _ _ _ h => h
def cL (K : PySem.W.Frag) (mg : Str → Option Value) (W : WX) (ios : List Nat) (c : C (List Dt)) : TA := canon K mg W ios (fun _ => repLst K mg) c
abbrev JL (X : Cx) (W : WX) (ios : List Nat) (es : List Expr) (c : C (List Dt)) : Prop := PA X es (cL X.K X.mg W ios c)
theorem jl_nil : JL X W ios [] (ret []) := pa_imp pa_nil fun σ H Q ⟨F, own, ρ, hp, he, po⟩ => po own [] H Good.refl he RepL.nil
def cCons (c : C Dt) (r : C (List Dt)) : C (List Dt) := bindR c fun d => bindR r fun ds => ret (d :: ds)
theorem jl_cons {c : C Dt} {r : C (List Dt)} (h : JE X W ios e c) (hr : JL X W ios es r) (hs : starEach (e :: es) X.env = (false, eval e X.env) :: starEach es X.env := by rfl) : JL X W ios (e :: es) (cCons c r) :=
  pa_imp (pa_cons h hr hs) fun σ H Q ⟨F, own, ρ, hp, he, po⟩ =>
    ⟨F, own, ρ, hp, he, PostR.bind anti_L po fun own1 x H1 a ρ1 g1 e1 r1 p1 => ⟨F, own1, ρ1, hp, e1, PostR.bind anti_L p1 fun own2 y H2 l ρ2 g2 e2 r2 p2 =>
      p2 own2 _ H2 Good.refl e2 (RepL.cons (RepD.mono g2.fre r1) r2)⟩⟩
def cTup (c : C (List Dt)) : C Dt := bindR c fun ds => lift (if fits ds.length then some (.tup ds) else none)
theorem je_tup {c : C (List Dt)} {x1} (h : JL X W ios es c) : JE X W ios (.Tuple es x1 pos) (cTup c) := pe_imp (pe_tup h) fun σ H Q ⟨F, own, ρ, hp, he, po⟩ => by
  refine ⟨F, own, ρ, hp, he, PostR.bind anti_E po fun own1 x H1 a ρ1 g1 e1 r1 p1 => ?_⟩
  cases hz : fits a.length with
  | false => simp only [lift, hz] at p1; exact p1.elim
  | true =>
    simp only [lift, hz, if_true] at p1
    have r1' : RepL X.K X.mg own1 H1 a x := r1
    exact ⟨by rw [r1'.length]; exact fits_le hz, new_tup r1' fun own' H' v x4 r4 => p1 own' v H' x4.good (e1.ext x4) r4⟩
/-- a new list, owned by nobody yet -/
def cLst (c : C (List Dt)) : C Tr := bindR c fun ds => lift (if fits ds.length then some (.o (.lst ds)) else none)
theorem jf_lst {c : C (List Dt)} (h : JL X W ios es c) : JF X W ios (.List es pos) (cLst c) := pe_imp (pe_lst h) fun σ H Q ⟨F, own, ρ, hp, he, po⟩ => by
  refine ⟨F, own, ρ, hp, he, PostR.bind anti_F po fun own1 x H1 a ρ1 g1 e1 r1 p1 => ?_⟩
  cases hz : fits a.length with
  | false => simp only [lift, hz] at p1; exact p1.elim
  | true =>
    simp only [lift, hz, if_true] at p1
    have r1' : RepL X.K X.mg own1 H1 a x := r1
    refine ⟨by rw [r1'.length]; exact fits_le hz, fun p hp' => ?_⟩
    have x4 : Ext own1 H1 (setO own1 p .other) (upd H1 p (.lst x)) := Ext.new hp' fun _ => by intro z; cases z
    exact p1 _ _ _ x4.good (e1.ext x4) ⟨p, rfl, hp', setO_same, by simp only [RepO]; exact ⟨x, upd_same, r1'.mono x4.good.fre⟩⟩
def cDicN (kd : Nat) : C Tr := ret (.o (.dic kd []))
theorem jf_dnew : JF X W ios (.Dict [] [] pos) (cDicN 0) := pe_imp pe_dnewK fun σ H Q ⟨F, own, ρ, hp, he, po⟩ => fun p hp' => by
  have x4 : Ext own H (setO own p .other) (upd H p (.dK [])) := Ext.new hp' fun _ => by intro z; cases z
  exact po _ _ _ x4.good (he.ext x4) ⟨p, rfl, hp', setO_same, by unfold RepO; exact .inl ⟨rfl, [], upd_same, rfl, by simp only [List.map_nil, RepP]⟩⟩
theorem jf_dnewT : JF X W ios (.Dict [] [] pos) (cDicN 1) := pe_imp pe_dnewT fun σ H Q ⟨F, own, ρ, hp, he, po⟩ => fun p hp' => by
  have x4 : Ext own H (setO own p .other) (upd H p (.dT [])) := Ext.new hp' fun _ => by intro z; cases z
  exact po _ _ _ x4.good (he.ext x4) ⟨p, rfl, hp', setO_same, by unfold RepO; exact .inr ⟨rfl, [], upd_same, rfl, by simp only [List.map_nil, RepP]⟩⟩
/-- what nobody has gets a label -/
theorem relabel {K : PySem.W.Frag} {mg : Str → Option Value} {own own1 : Own} {H H1 : Hp} {a : Addr} (l : Ow) (g : Good own H own1 H1) (hn : H a = none) (ho : own1 a = .other) :
    Good own H (setO own1 a l) H1 ∧ Fre own1 H1 (setO own1 a l) H1 := by
  refine ⟨⟨fun b o hb lb => ?_, g.ex⟩, ⟨fun b o hb f => ?_⟩⟩
  · have hba : b ≠ a := fun z => by rw [z, hn] at hb; cases hb
    obtain ⟨h1, h2⟩ := g.keep b o hb lb
    exact ⟨h1, (setO_ne hba).trans h2⟩
  · have hba : b ≠ a := fun z => by rw [z, ho] at f; cases f
    exact ⟨hb, (setO_ne hba).trans f⟩
theorem Env.relabel {K : PySem.W.Frag} {mg : Str → Option Value} {F : Fi} {own1 : Own} {σ : L2.St} {H1 : Hp} {ρ : Rho} (e : Env K mg F own1 σ H1 ρ) {a : Addr} (l : Ow) (ho : own1 a = .other) (fr : Fre own1 H1 (setO own1 a l) H1)
    (hl : ∀ i, l = .mine i → F.H0 a = none) : Env K mg F (setO own1 a l) σ H1 ρ := by
  refine ⟨e.len, fun i t h => ?_, fun b i o hb hh => ?_, e.pin, e.ex⟩
  · obtain ⟨y, h1, h2⟩ := e.slot i t h
    refine ⟨y, h1, ?_⟩
    cases t with
    | v d => exact RepD.mono fr h2
    | o d =>
      obtain ⟨c, e1, f, r⟩ := h2
      have hc : c ≠ a := fun z => by rw [z, ho] at f; cases f
      exact ⟨c, e1, (setO_ne hc).trans f, r.mono fr fun _ h => h⟩
  · by_cases hba : b = a
    · subst hba
      rw [setO_same] at hb
      exact .inl (hl i hb)
    · rw [setO_ne hba] at hb
      exact e.nw b i o hb hh
/-- a new object as plain data -/
def frz (c : C Tr) : C Dt := fun ρ => match c ρ with
  | .ok t ρ' => .ok t.fz ρ'
  | .exc x ρ' => .exc x ρ'
  | .stuck => .stuck
theorem je_f {c : C Tr} (h : JF X W ios e c) : JE X W ios e (frz c) := pe_imp h fun σ H Q ⟨F, own, ρ, hp, he, po⟩ => by
  refine ⟨F, own, ρ, hp, he, ?_⟩
  unfold frz at po
  cases hc : c ρ with
  | stuck => rw [hc] at po; exact po
  | exc x ρ' => rw [hc] at po; exact po
  | ok t ρ' =>
    rw [hc] at po
    intro own' v H' g e' r
    cases t with
    | v d => exact po own' v H' g e' r
    | o d =>
      obtain ⟨a, ev, hn, ho, ro⟩ := r
      subst ev
      obtain ⟨g2, fr⟩ := relabel (K := X.K) (mg := X.mg) .free g hn ho
      exact po (setO own' a .free) _ H' g2 (e'.relabel .free ho fr fun i z => by cases z) ((ro.mono fr fun _ h => h).free setO_same)
/-! ## tests -/
/-- truth by data -/
def truD : Dt → Option Bool
  | .non => some false
  | .bl b => some b
  | .int i => some (i != 0)
  | .str s => if fits s.length then some (!s.isEmpty) else none
  | .lst ds => some (!ds.isEmpty)
  | .tup ds => some (!ds.isEmpty)
  | .dic 0 kvs => some (!kvs.isEmpty)
  | _ => none
theorem RepL.isEmpty {K : PySem.W.Frag} {mg : Str → Option Value} {own : Own} {H : Hp} {ds : List Dt} {xs : List V} (r : RepL K mg own H ds xs) : xs.isEmpty = ds.isEmpty := by
  have := r.length
  cases ds <;> cases xs <;> simp_all
theorem tru_pk {K : PySem.W.Frag} {mg : Str → Option Value} {own : Own} {H : Hp} {d : Dt} {x : V} {b : Bool} (r : RepPk K mg own H d x) (h : truD d = some b) : TruV K x H b := by
  unfold truD at h
  split at h
  · cases h; rw [pk_non r]; rfl
  · cases h; rw [pk_bl r]; rfl
  · cases h; rw [pk_int r]; rfl
  · rename_i s
    split at h
    · rename_i hz
      cases h
      rw [pk_str r]
      refine ⟨by rw [mkS_len]; exact fits_le hz, ?_⟩
      rw [mkS_len]
      cases s <;> simp
      omega
    · cases h
  · cases h
    obtain ⟨p, xs, e, k, q⟩ := pk_lst r
    rw [e]
    exact .inl ⟨xs, SqL.of k, by rw [q.isEmpty]⟩
  · cases h
    obtain ⟨p, xs, e, _, k, q⟩ := pk_tup r
    rw [e]
    exact .inr (.inl ⟨xs, SqT.of k, by rw [q.isEmpty]⟩)
  · cases h
    rename_i kvs
    obtain ⟨p, e, q⟩ := pk_dic r
    rw [e]
    simp only [RepO] at q
    rcases q with ⟨_, q, k, kk, _⟩ | ⟨z, _⟩
    · refine .inr (.inr ⟨q, k, ?_⟩)
      have := congrArg List.length kk
      cases kvs <;> cases q <;> simp_all
    · cases z
  · cases h
def cTru (c : C Ar) : C Bool := bindR c fun x => bindR (der x) fun d => lift (truD d)
theorem jt_val {c : C Ar} (h : JQ X W ios e c) (he : ∀ whole, isTrue e X.env whole = (do let v ← whole; standAt e.pos; holding [v] (truthy v)) := by intro _; rfl) : JT X W ios e (cTru c) :=
  pt_imp (pt_truth h he) fun σ H Q ⟨F, own, ρ, hp, he, po⟩ => by
    refine ⟨F, own, ρ, hp, he, PostR.bind anti_B po fun own1 x H1 a ρ1 g1 e1 r1 p1 => ?_⟩
    unfold bindR der at p1
    cases h1 : deref a ρ1 with
    | none => rw [h1] at p1; exact p1.elim
    | some d =>
      rw [h1] at p1
      cases h2 : truD d with
      | none => simp only [lift, h2] at p1; exact p1.elim
      | some b =>
        simp only [lift, h2] at p1
        exact ⟨b, tru_pk (deref_pk e1 r1 h1) h2, p1 own1 b H1 Good.refl e1 rfl⟩
abbrev JW (X : Cx) (W : WX) (ios : List Nat) (e : Expr) (c : C Bool) : Prop := PW X e (cB X.K X.mg W ios c)
def cAndB (ca cb : C Bool) : C Bool := bindR ca fun b => if b then cb else ret false
def cOrB (ca cb : C Bool) : C Bool := bindR ca fun b => if b then ret true else cb
variable {rest : List Expr}
theorem jw_and1 {c : C Bool} (h : JT X W ios a c) : JW X W ios (.BoolOp .And [a] pos) c := pw_and1 h
theorem jw_or1 {c : C Bool} (h : JT X W ios a c) : JW X W ios (.BoolOp .Or [a] pos) c := pw_or1 h
theorem jw_and {ca cb : C Bool} (ha : JT X W ios a ca) (hb : JW X W ios (.BoolOp .And (b :: rest) pos) cb) : JW X W ios (.BoolOp .And (a :: b :: rest) pos) (cAndB ca cb) :=
  pw_imp (pw_and ha hb) fun σ H Q ⟨F, own, ρ, hp, he, po⟩ => by
    refine ⟨F, own, ρ, hp, he, PostR.bind anti_B po fun own1 x H1 a ρ1 g1 e1 r1 p1 => ?_⟩
    obtain rfl : a = x := r1
    cases a with
    | true => exact ⟨F, own1, ρ1, hp, e1, p1⟩
    | false => exact p1 own1 false H1 Good.refl e1 rfl
theorem jw_or {ca cb : C Bool} (ha : JT X W ios a ca) (hb : JW X W ios (.BoolOp .Or (b :: rest) pos) cb) : JW X W ios (.BoolOp .Or (a :: b :: rest) pos) (cOrB ca cb) :=
  pw_imp (pw_or ha hb) fun σ H Q ⟨F, own, ρ, hp, he, po⟩ => by
    refine ⟨F, own, ρ, hp, he, PostR.bind anti_B po fun own1 x H1 a ρ1 g1 e1 r1 p1 => ?_⟩
    obtain rfl : a = x := r1
    cases a with
    | false => exact ⟨F, own1, ρ1, hp, e1, p1⟩
    | true => exact p1 own1 true H1 Good.refl e1 rfl
theorem jt_w {c : C Bool} (h : JW X W ios e c) : JT X W ios e c := h.pt
def cNotB (c : C Bool) : C Bool := bindR c fun b => ret (!b)
theorem jt_not {c : C Bool} (h : JT X W ios a c) : JT X W ios (.UnaryOp .Not a pos) (cNotB c) := pt_imp (pt_not h) fun σ H Q ⟨F, own, ρ, hp, he, po⟩ =>
  ⟨F, own, ρ, hp, he, PostR.bind anti_B po fun own1 x H1 a ρ1 g1 e1 r1 p1 => by
    obtain rfl : a = x := r1
    exact p1 own1 _ H1 Good.refl e1 rfl⟩
/-! .. as values, of bools -/
def isB (c : C Dt) : C Bool := isBl c
def cAndV (ca cb : C Dt) : C Dt := bindR ca fun d => match d with | .bl b => (if b then cb else ret (.bl false)) | _ => lift none
def cOrV (ca cb : C Dt) : C Dt := bindR ca fun d => match d with | .bl b => (if b then ret (.bl true) else cb) | _ => lift none
def cNotV (ca : C Dt) : C Dt := bindR ca fun d => match d with | .bl b => ret (.bl (!b)) | _ => lift none
theorem je_one {op} {c : C Dt} (h : JE X W ios a c) : JE X W ios (.BoolOp op [a] pos) c := pe_one h
theorem je_and {ca cb : C Dt} (ha : JE X W ios a ca) (hb : JE X W ios (.BoolOp .And (b :: rest) pos) cb) : JE X W ios (.BoolOp .And (a :: b :: rest) pos) (cAndV ca cb) :=
  pe_imp (pe_and ha hb) fun σ H Q ⟨F, own, ρ, hp, he, po⟩ => by
    refine ⟨F, own, ρ, hp, he, PostR.bind anti_E po fun own1 x H1 a ρ1 g1 e1 r1 p1 => ?_⟩
    cases a with
    | bl b =>
      refine ⟨b, by simpa only [repE, RepD] using r1, ?_⟩
      cases b with
      | true => exact ⟨F, own1, ρ1, hp, e1, p1⟩
      | false => exact p1 own1 _ H1 Good.refl e1 (rep_bl _)
    | _ => exact p1.elim
theorem je_or {ca cb : C Dt} (ha : JE X W ios a ca) (hb : JE X W ios (.BoolOp .Or (b :: rest) pos) cb) : JE X W ios (.BoolOp .Or (a :: b :: rest) pos) (cOrV ca cb) :=
  pe_imp (pe_or ha hb) fun σ H Q ⟨F, own, ρ, hp, he, po⟩ => by
    refine ⟨F, own, ρ, hp, he, PostR.bind anti_E po fun own1 x H1 a ρ1 g1 e1 r1 p1 => ?_⟩
    cases a with
    | bl b =>
      refine ⟨b, by simpa only [repE, RepD] using r1, ?_⟩
      cases b with
      | false => exact ⟨F, own1, ρ1, hp, e1, p1⟩
      | true => exact p1 own1 _ H1 Good.refl e1 (rep_bl _)
    | _ => exact p1.elim
theorem je_not {ca : C Dt} (ha : JE X W ios a ca) : JE X W ios (.UnaryOp .Not a pos) (cNotV ca) :=
  pe_imp (pe_not ha) fun σ H Q ⟨F, own, ρ, hp, he, po⟩ => by
    refine ⟨F, own, ρ, hp, he, PostR.bind anti_E po fun own1 x H1 a ρ1 g1 e1 r1 p1 => ?_⟩
    cases a with
    | bl b => exact ⟨b, by simpa only [repE, RepD] using r1, p1 own1 _ H1 Good.refl e1 (rep_bl _)⟩
    | _ => exact p1.elim
def cNeg (ca : C Dt) : C Dt := bindR ca fun d => match d with | .int b => ret (.int (-b)) | _ => lift none
theorem je_neg {ca : C Dt} (ha : JE X W ios a ca) : JE X W ios (.UnaryOp .USub a pos) (cNeg ca) :=
  pe_imp (pe_un un_neg ha) fun σ H Q ⟨F, own, ρ, hp, he, po⟩ => by
    refine ⟨F, own, ρ, hp, he, PostR.bind anti_E po fun own1 x H1 a ρ1 g1 e1 r1 p1 => ?_⟩
    cases a with
    | int b => exact ⟨b, by simpa only [repE, RepD] using r1, p1 own1 _ H1 Good.refl e1 (rep_int _)⟩
    | _ => exact p1.elim
def cIf {α : Type} (ct : C Bool) (ca cb : C α) : C α := bindR ct fun b => if b then ca else cb
theorem je_if {c : Expr} {ct : C Bool} {ca cb : C Dt} (hc : JT X W ios c ct) (ha : JE X W ios a ca) (hb : JE X W ios b cb) : JE X W ios (.IfExp c a b pos) (cIf ct ca cb) :=
  pe_imp (pe_ifExp hc ha hb) fun σ H Q ⟨F, own, ρ, hp, he, po⟩ => by
    refine ⟨F, own, ρ, hp, he, PostR.bind anti_E po fun own1 x H1 a ρ1 g1 e1 r1 p1 => ?_⟩
    obtain rfl : a = x := r1
    cases a with
    | true => exact ⟨F, own1, ρ1, hp, e1, p1⟩
    | false => exact ⟨F, own1, ρ1, hp, e1, p1⟩
/-! ## attributes of instances -/
/-- of the classes cs the attribute f is one of the instance -/
def FldOk (K : PySem.W.Frag) (mg : Str → Option Value) (cs : List Str) (f : Str) : Prop := ∀ c C, c ∈ cs → mg c = some (.ref C) → Cls K C ∧ NoAttr K C f
def dFld (cs : List Str) (f : Str) : Dt → Option Dt
  | .obj c fs => if c ∈ cs then fs.lookup f else none
  | _ => none
theorem repF_look {K : PySem.W.Frag} {mg : Str → Option Value} {own : Own} {H : Hp} {f : Str} {d : Dt} : ∀ {fs : List (Str × Dt)} {q : List (Str × V)}, fs.map (·.1) = q.map (·.1) → RepF K mg own H fs (q.map (·.2)) → fs.lookup f = some d → ∃ x, q.lookup f = some x ∧ RepD K mg own H d x
  | [], _, _, _, e => by cases e
  | _ :: _, [], e, _, _ => by simp at e
  | (g, y) :: fs, (g', x) :: q, e, r, l => by
    simp only [List.map_cons, List.cons.injEq] at e
    obtain ⟨e1, e2⟩ := e
    subst e1
    simp only [List.map_cons, RepF] at r
    obtain ⟨x', r', e3, r1, r2⟩ := r
    injection e3 with e4 e5
    subst e4 e5
    simp only [List.lookup_cons] at l ⊢
    split at l
    · cases l
      exact ⟨x, rfl, r1⟩
    · exact repF_look e2 r2 l
def cFld (cs : List Str) (f : Str) (c : C Ar) : C Dt := bindR c fun x => bindR (der x) fun d => lift (dFld cs f d)
theorem je_fld {cs : List Str} {f : Str} {c : C Ar} (ok : FldOk X.K X.mg cs f) (h : JQ X W ios e c) (hb : attributeBase e f X.env (eval e X.env) = eval e X.env := by rfl) : JE X W ios (.Attribute e f pos) (cFld cs f c) :=
  pe_imp (pe_fld h hb) fun σ H Q ⟨F, own, ρ, hp, he, po⟩ => by
    refine ⟨F, own, ρ, hp, he, PostR.bind anti_E po fun own1 x H1 a ρ1 g1 e1 r1 p1 => ?_⟩
    unfold bindR der at p1
    cases h1 : deref a ρ1 with
    | none => rw [h1] at p1; exact p1.elim
    | some d =>
      rw [h1] at p1
      cases h2 : dFld cs f d with
      | none => simp only [lift, h2] at p1; exact p1.elim
      | some w =>
        simp only [lift, h2] at p1
        unfold dFld at h2
        split at h2
        · split at h2
          · rename_i hcs
            obtain ⟨a', C, dx, q, ex, m, k, en, rf⟩ := pk_obj (deref_pk e1 r1 h1)
            obtain ⟨k1, k2⟩ := ok _ _ hcs m
            obtain ⟨v, l, rv⟩ := repF_look en rf h2
            exact ⟨a', C, dx, q, v, ex, k, k1, k2, l, p1 own1 v H1 Good.refl e1 rv⟩
          · cases h2
        · cases h2
end
end DL
end
section
set_option Elab.async false
set_option linter.all false
set_option maxRecDepth 100000
set_option maxHeartbeats 2000000
namespace DL
open PySem PySem.Spec PyProof.Rows L2
/-! ## statements -/
def seqS (a b : S) : S := fun ρ => match a ρ with
  | .next ρ' => b ρ'
  | o => o
def nextS : S := fun ρ => .next ρ
def setR (ρ : Rho) (i : Nat) (t : Tr) : Rho := ρ.set i (some t)
section
variable {K : PySem.W.Frag} {mg : Str → Option Value} {F : Fi} {own own' : Own} {σ : L2.St} {H : Hp} {ρ : Rho}
theorem Env.set (e : Env K mg F own σ H ρ) {i : Nat} (hi : i ∉ F.pin.map (·.1)) {t : Tr} {x : V} (r : RepT K mg own H i t x) : Env K mg F own (σ.set i (some x)) H (setR ρ i t) := by
  refine ⟨by unfold setR; rw [List.length_set, List.length_set]; exact e.len, fun j t' h => ?_, e.nw, fun p hp => ?_, e.ex⟩
  · unfold setR at h
    by_cases hij : i = j
    · subst hij
      have hl : i < ρ.length := by
        have := (List.getElem?_eq_some_iff.mp h).1
        rwa [List.length_set] at this
      rw [List.getElem?_set_self hl] at h
      cases h
      exact ⟨x, List.getElem?_set_self (by rw [e.len]; exact hl), r⟩
    · rw [List.getElem?_set_ne hij] at h
      obtain ⟨y, q1, q2⟩ := e.slot j t' h
      exact ⟨y, by rw [List.getElem?_set_ne hij]; exact q1, q2⟩
  · have : i ≠ p.1 := fun z => hi (List.mem_map.mpr ⟨p, hp, z.symm⟩)
    rw [List.getElem?_set_ne this]
    exact e.pin p hp
theorem Env.wipe1 (e : Env K mg F own σ H ρ) {i : Nat} (hi : i ∉ F.pin.map (·.1)) {o : Option V} : Env K mg F own (σ.set i o) H (ρ.set i none) := by
  refine ⟨by rw [List.length_set, List.length_set]; exact e.len, fun j t' h => ?_, e.nw, fun p hp => ?_, e.ex⟩
  · by_cases hij : i = j
    · subst hij
      have hl : i < ρ.length := by
        have := (List.getElem?_eq_some_iff.mp h).1
        rwa [List.length_set] at this
      rw [List.getElem?_set_self hl] at h
      cases h
    · rw [List.getElem?_set_ne hij] at h
      obtain ⟨y, q1, q2⟩ := e.slot j t' h
      exact ⟨y, by rw [List.getElem?_set_ne hij]; exact q1, q2⟩
  · have : i ≠ p.1 := fun z => hi (List.mem_map.mpr ⟨p, hp, z.symm⟩)
    rw [List.getElem?_set_ne this]
    exact e.pin p hp
end
section
variable {X : Cx} {W : WX} {ios : List Nat} {e a b : Expr} {es : List Expr} {pos pos' : Pos} {st : Stmt} {sts : List Stmt}
theorem js_nil : JSs X W ios [] nextS := pss_imp pss_nil fun D σ H ⟨F, own, ρ, hp, he, po⟩ => po own σ H Good.refl he
theorem PostS.seq {K : PySem.W.Frag} {mg : Str → Option Value} {F : Fi} {own : Own} {H : Hp} {ρ : Rho} {c1 c2 : S} {D : Ends} (hp : F.pin.map (·.1) = ios) (p : PostS K mg W F own H (seqS c1 c2 ρ) D) : PostS K mg W F own H (c1 ρ) { D with nx := cS K mg W ios c2 D } := by
  unfold seqS at p
  cases h : c1 ρ with
  | next ρ' =>
    rw [h] at p
    exact fun own' σ' H' g e => ⟨F, own', ρ', hp, e, PostS.move g p⟩
  | ret t ρ' =>
    rw [h] at p
    cases t <;> exact p
  | brk ρ' => rw [h] at p; exact p
  | cont ρ' => rw [h] at p; exact p
  | exc x ρ' => rw [h] at p; exact p
  | stuck => rw [h] at p; exact p
theorem js_cons {c1 c2 : S} (h1 : JS X W ios st c1) (h2 : JSs X W ios sts c2) : JSs X W ios (st :: sts) (seqS c1 c2) :=
  pss_imp (pss_cons h1 h2) fun D σ H ⟨F, own, ρ, hp, he, po⟩ => ⟨F, own, ρ, hp, he, PostS.seq hp po⟩
theorem js_one {c1 : S} (h1 : JS X W ios st c1) : JSs X W ios [st] c1 := pss_one h1
theorem js_pass : JS X W ios (.Pass pos) nextS := ps_imp ps_pass fun D σ H ⟨F, own, ρ, hp, he, po⟩ => po own σ H Good.refl he
def brkS : S := fun ρ => .brk ρ
def contS : S := fun ρ => .cont ρ
theorem js_break : JS X W ios (.Break pos) brkS := ps_imp ps_break fun D σ H ⟨F, own, ρ, hp, he, po⟩ => po own σ H Good.refl he
theorem js_continue : JS X W ios (.Continue pos) contS := ps_imp ps_continue fun D σ H ⟨F, own, ρ, hp, he, po⟩ => po own σ H Good.refl he
def ifS (c : C Bool) (t u : S) : S := bindS c fun b => if b then t else u
theorem js_if {c : Expr} {cc : C Bool} {as bs : List Stmt} {t u : S} (hc : JT X W ios c cc) (ha : JSs X W ios as t) (hb : JSs X W ios bs u) : JS X W ios (.If c as bs pos) (ifS cc t u) :=
  ps_imp (ps_if hc ha hb) fun D σ H ⟨F, own, ρ, hp, he, po⟩ => ⟨F, own, ρ, hp, he, PostS.bind he po fun own1 x H1 a ρ1 g1 e1 r1 p1 => by
    obtain rfl : a = x := r1
    cases a with
    | true => exact ⟨F, own1, ρ1, hp, e1, p1⟩
    | false => exact ⟨F, own1, ρ1, hp, e1, p1⟩⟩
def exprS (c : C Dt) : S := bindS c fun _ => nextS
theorem js_expr {c : C Dt} (h : JE X W ios e c) (hs : swapsWith e none pos.line X.env = pure false := by rfl) : JS X W ios (.Expr e pos) (exprS c) :=
  ps_imp (ps_expr h hs) fun D σ H ⟨F, own, ρ, hp, he, po⟩ => ⟨F, own, ρ, hp, he, PostS.bind he po fun own1 x H1 a ρ1 g1 e1 r1 p1 => p1 own1 σ H1 Good.refl e1⟩
def retS (c : C Dt) : S := bindS c fun d ρ => .ret (.v d) ρ
theorem js_ret {c : C Dt} (h : JE X W ios e c) : JS X W ios (.Return (some e) pos) (retS c) :=
  ps_imp (ps_ret h) fun D σ H ⟨F, own, ρ, hp, he, po⟩ => ⟨F, own, ρ, hp, he, PostS.bind he po fun own1 x H1 a ρ1 g1 e1 r1 p1 => p1 own1 σ x H1 Good.refl e1 r1⟩
/-- a new object given out, nobody's -/
def retF (c : C Tr) : S := bindS c fun t ρ => .ret t ρ
theorem js_retF {c : C Tr} (h : JF X W ios e c) : JS X W ios (.Return (some e) pos) (retF c) :=
  ps_imp (ps_ret h) fun D σ H ⟨F, own, ρ, hp, he, po⟩ => by
    refine ⟨F, own, ρ, hp, he, ?_⟩
    unfold retF bindS at po
    cases hc : c ρ with
    | stuck => rw [hc] at po; exact po
    | exc x ρ' => rw [hc] at po; exact fun own' cls dd H' g e r => po own' cls dd σ H' g e r
    | ok t ρ' =>
      rw [hc] at po
      intro own' v H' g e' r
      cases t with
      | v d => exact po own' σ v H' g e' r
      | o d =>
        obtain ⟨a, ev, hn, ho, ro⟩ := r
        subst ev
        refine po own' σ a H' g e' ?_ ho ro
        cases h0 : F.H0 a with
        | none => rfl
        | some u =>
          obtain ⟨u', hu⟩ := he.ex a u h0
          rw [hu] at hn
          cases hn
/-- an owned name given out: its slot is left empty -/
def retV (i : Nat) : S := fun ρ => match ρ[i]? with
  | some (some t) => .ret t (ρ.set i none)
  | _ => .stuck
theorem js_retV {i : Nat} {x : Str} (hi : i ∉ ios) (hN : X.N[i]? = some x := by rfl) (hv : Vis X.env.scope x := by first | exact Or.inl rfl | exact Or.inr (Or.inl rfl) | exact Or.inr (Or.inr rfl)) (hd : (x == ("__debug__" : Str)) = false := by decide) (hcd : (x == ("__classdict__" : Str)) = false := by decide) :
    JS X W ios (.Return (some (.Name x pos')) pos) (retV i) := by
  refine ps_imp (ps_ret (pe_var hN hv hd hcd)) fun D σ H ⟨F, own, ρ, hp, he, po⟩ => ?_
  unfold retV at po
  cases h : ρ[i]? with
  | none => rw [h] at po; exact po.elim
  | some o =>
    rw [h] at po
    cases o with
    | none => exact po.elim
    | some t =>
      obtain ⟨y, h1, r⟩ := he.slot i t h
      have hlen : i < σ.length := (List.getElem?_eq_some_iff.mp h1).1
      have es : σ.set i (some y) = σ := List.ext_getElem? fun j => by
        by_cases hj : i = j
        · subst hj; rw [List.getElem?_set_self hlen, h1]
        · rw [List.getElem?_set_ne hj]
      have he2 : Env X.K X.mg F own σ H (ρ.set i none) := by
        have := he.wipe1 (i := i) (o := some y) (by rw [hp]; exact hi)
        rwa [es] at this
      refine ⟨y, h1, ?_⟩
      cases t with
      | v d => exact po own σ y H Good.refl he2 r
      | o d =>
        obtain ⟨a, ey, f, ro⟩ := r
        subst ey
        have g : Good own H (setO own a .other) H := ⟨fun b o hb l => by
          have hb' : b ≠ a := fun z => by
            rw [z, f] at l
            rcases l with l | l <;> cases l
          exact ⟨hb, setO_ne hb'⟩, fun b o h => ⟨o, h⟩⟩
        refine po (setO own a .other) σ a H g ⟨he2.len, fun j t' hj => ?_, fun b j o hb ho => ?_, he2.pin, he2.ex⟩ ?_ setO_same (ro.mono g.fre fun _ h => h)
        · obtain ⟨y', q1, q2⟩ := he2.slot j t' hj
          refine ⟨y', q1, ?_⟩
          cases t' with
          | v d' => exact RepD.mono g.fre q2
          | o d' =>
            obtain ⟨c, e1, f', r2⟩ := q2
            have hc : c ≠ a := fun z => by
              rw [z, f] at f'
              cases f'
              rw [List.getElem?_set_self (by have := (List.getElem?_eq_some_iff.mp h).1; exact this)] at hj
              cases hj
            exact ⟨c, e1, (setO_ne hc).trans f', r2.mono g.fre fun _ h => h⟩
        · by_cases hba : b = a
          · rw [hba, setO_same] at hb; cases hb
          · rw [setO_ne hba] at hb
            exact he2.nw b j o hb ho
        · obtain ⟨u, hu⟩ := ro.there
          rcases he.nw a i u f hu with z | z
          · exact z
          · exact absurd (List.mem_map.mpr ⟨_, z, rfl⟩) (by rw [hp]; exact hi)
def retN : S := fun ρ => .ret (.v .non) ρ
theorem js_retN : JS X W ios (.Return none pos) retN := ps_imp ps_retN fun D σ H ⟨F, own, ρ, hp, he, po⟩ => po own σ .non H Good.refl he rep_non
/-! ### names stored -/
def setS (i : Nat) (c : C Dt) : S := bindS c fun d ρ => .next (setR ρ i (.v d))
theorem js_set {i : Nat} {x : Str} {c : C Dt} (hN : X.N.Nodup) (hi : X.N[i]? = some x) (hx : Loc X.env.scope x) (h : JE X W ios e c) (ho : i ∉ ios) (hs : swapsWith e (some (.Name x pos')) pos.line X.env = pure false := by rfl) (hf : X.fn x = true ∨ X.env.scope.names.lookup x = some .local := by first | exact .inl rfl | exact .inr rfl) :
    JS X W ios (.Assign [.Name x pos'] e pos) (setS i c) :=
  ps_imp (ps_set hN hi hx h hs hf) fun D σ H ⟨F, own, ρ, hp, he, po⟩ => ⟨F, own, ρ, hp, he, PostS.bind he po fun own1 x H1 a ρ1 g1 e1 r1 p1 =>
    p1 own1 _ H1 Good.refl (e1.set (t := .v a) (by rw [hp]; exact ho) r1)⟩
def setF (i : Nat) (c : C Tr) : S := bindS c fun t ρ => .next (setR ρ i t)
theorem setF_end {D : Ends} {c : C Tr} {i : Nat} (ho : i ∉ ios) {σ : L2.St} {H : Hp} (h : cS X.K X.mg W ios (setF i c) D σ H) : cF X.K X.mg W ios c σ H (fun x H1 => D.nx (σ.set i (some x)) H1) := by
  obtain ⟨F, own, ρ, hp, he, po⟩ := h
  refine ⟨F, own, ρ, hp, he, ?_⟩
  unfold setF bindS at po
  cases hc : c ρ with
  | stuck => rw [hc] at po; exact po
  | exc x ρ' => rw [hc] at po; exact fun own' cls dd H' g e r => po own' cls dd σ H' g e r
  | ok t ρ' =>
    rw [hc] at po
    intro own' v H' g e' r
    cases t with
    | v d => exact po own' _ H' g (e'.set (t := .v d) (by rw [hp]; exact ho) r)
    | o d =>
      obtain ⟨a, ev, hn, hot, ro⟩ := r
      subst ev
      obtain ⟨g2, fr⟩ := relabel (K := X.K) (mg := X.mg) (.mine i) g hn hot
      have h0 : F.H0 a = none := by
        cases h0 : F.H0 a with
        | none => rfl
        | some u =>
          obtain ⟨u', hu⟩ := he.ex a u h0
          rw [hu] at hn
          cases hn
      exact po (setO own' a (.mine i)) _ H' g2 ((e'.relabel (.mine i) hot fr fun _ _ => h0).set (t := .o d) (by rw [hp]; exact ho) ⟨a, rfl, setO_same, ro.mono fr fun _ h => h⟩)
theorem js_setF {i : Nat} {x : Str} {c : C Tr} (hN : X.N.Nodup) (hi : X.N[i]? = some x) (hx : Loc X.env.scope x) (h : JF X W ios e c) (ho : i ∉ ios) (hs : swapsWith e (some (.Name x pos')) pos.line X.env = pure false := by rfl) (hf : X.fn x = true ∨ X.env.scope.names.lookup x = some .local := by first | exact .inl rfl | exact .inr rfl) :
    JS X W ios (.Assign [.Name x pos'] e pos) (setF i c) :=
  ps_imp (ps_set hN hi hx h hs hf) fun D σ H q => setF_end ho q
/-! ### targets -/
abbrev G := Dt → Rho → Option Rho
def cG (K : PySem.W.Frag) (mg : Str → Option Value) (ios : List Nat) (g : G) : TG := fun v σ H Q => ∃ F own ρ d, F.pin.map (·.1) = ios ∧ Env K mg F own σ H ρ ∧ RepD K mg own H d v ∧
  match g d ρ with | some ρ' => (∀ own' σ' H', Good own H own' H' → Env K mg F own' σ' H' ρ' → Q σ' H') | none => False
abbrev JG (X : Cx) (ios : List Nat) (tg : Expr) (g : G) : Prop := PG X tg (cG X.K X.mg ios g)
theorem pg_imp {tg : Expr} {t t' : TG} (h : PG X tg t) (i : ∀ v σ H Q, t' v σ H Q → t v σ H Q) : PG X tg t' := ⟨fun pins s σ H v u Q I r q => h.run pins s σ H v u Q I r (i v σ H Q q)⟩
def gNm (i : Nat) : G := fun d ρ => some (setR ρ i (.v d))
theorem jg_name {i : Nat} {x : Str} (hN : X.N.Nodup) (hi : X.N[i]? = some x) (hx : Loc X.env.scope x) (ho : i ∉ ios) (hf : X.fn x = true ∨ X.env.scope.names.lookup x = some .local := by first | exact .inl rfl | exact .inr rfl) : JG X ios (.Name x pos) (gNm i) :=
  pg_imp (pg_name hN hi hx hf) fun v σ H Q ⟨F, own, ρ, d, hp, he, r, po⟩ => po own _ H Good.refl (he.set (t := .v d) (by rw [hp]; exact ho) r)
def cGs (K : PySem.W.Frag) (mg : Str → Option Value) (ios : List Nat) (g : List Dt → Rho → Option Rho) : TGs := fun vs σ H Q => ∃ F own ρ ds, F.pin.map (·.1) = ios ∧ Env K mg F own σ H ρ ∧ RepL K mg own H ds vs ∧
  match g ds ρ with | some ρ' => (∀ own' σ' H', Good own H own' H' → Env K mg F own' σ' H' ρ' → Q σ' H') | none => False
abbrev JGs (X : Cx) (ios : List Nat) (tgs : List Expr) (g : List Dt → Rho → Option Rho) : Prop := PGs X tgs (cGs X.K X.mg ios g)
theorem pgs_imp {tgs : List Expr} {t t' : TGs} (h : PGs X tgs t) (i : ∀ v σ H Q, t' v σ H Q → t v σ H Q) : PGs X tgs t' := ⟨fun pins s σ H v u Q I r q => h.run pins s σ H v u Q I r (i v σ H Q q)⟩
def gsNil : List Dt → Rho → Option Rho := fun ds ρ => match ds with | [] => some ρ | _ => none
def gsCons (g : G) (r : List Dt → Rho → Option Rho) : List Dt → Rho → Option Rho := fun ds ρ => match ds with | d :: q => (match g d ρ with | some ρ' => r q ρ' | none => none) | [] => none
theorem jgs_nil : JGs X ios [] gsNil := pgs_imp pgs_nil fun vs σ H Q ⟨F, own, ρ, ds, hp, he, r, po⟩ => by
  cases ds with
  | nil => simp only [RepL] at r; exact ⟨r, po own σ H Good.refl he⟩
  | cons d q => exact po.elim
theorem jgs_cons {g : G} {r : List Dt → Rho → Option Rho} (h1 : JG X ios e g) (h2 : JGs X ios es r) (hs : (assignEach (e :: es) X.env).map (·.2) = assign e X.env :: (assignEach es X.env).map (·.2) := by rfl) : JGs X ios (e :: es) (gsCons g r) :=
  pgs_imp (pgs_cons h1 h2 hs) fun vs σ H Q ⟨F, own, ρ, ds, hp, he, rr, po⟩ => by
    cases ds with
    | nil => exact po.elim
    | cons d q =>
      simp only [RepL] at rr
      obtain ⟨x, xs, e1, r1, r2⟩ := rr
      unfold gsCons at po
      simp only at po
      refine ⟨x, xs, e1, F, own, ρ, d, hp, he, r1, ?_⟩
      cases hg : g d ρ with
      | none => rw [hg] at po; exact po.elim
      | some ρ1 =>
        rw [hg] at po
        simp only at po
        intro own1 σ1 H1 g1 e1'
        refine ⟨F, own1, ρ1, q, hp, e1', r2.mono g1.fre, ?_⟩
        cases hr : r q ρ1 with
        | none => rw [hr] at po; exact po.elim
        | some ρ2 =>
          rw [hr] at po
          exact fun own2 σ2 H2 g2 e2 => po own2 σ2 H2 (g1.trans g2) e2
/-- a, b, .. of a tuple -/
def gTu (n : Nat) (g : List Dt → Rho → Option Rho) : G := fun d ρ => match d with
  | .tup ds => if ds.length = n then g ds ρ else none
  | _ => none
theorem jg_tup {n k : Nat} {g : List Dt → Rho → Option Rho} (hc : X.calm = true) (h : JGs X ios es g) (hn : (assignEach es X.env).length = n := by rfl) (hst : (assignEach es X.env).findIdx? (·.1) = none := by rfl) : JG X ios (.Tuple es k pos) (gTu n g) :=
  pg_imp (pg_tup hc h hn hst) fun v σ H Q ⟨F, own, ρ, d, hp, he, r, po⟩ => by
    cases d with
    | tup ds =>
      simp only [gTu] at po
      simp only [RepD] at r
      obtain ⟨a, xs, e1, _, k, rl⟩ := r
      by_cases hl : ds.length = n
      · rw [if_pos hl] at po
        exact ⟨a, xs, e1, SqT.of k, by rw [rl.length]; exact hl, F, own, ρ, ds, hp, he, rl, po⟩
      · rw [if_neg hl] at po
        exact po.elim
    | _ => exact po.elim
/-- target = value, any target -/
def asgS (g : G) (c : C Dt) : S := bindS c fun d ρ => match g d ρ with | some ρ' => .next ρ' | none => .stuck
theorem js_asg {tg : Expr} {g : G} {c : C Dt} (h : JE X W ios e c) (hg : JG X ios tg g) (hs : swapsWithSole [tg] e pos.line X.env = pure false := by rfl) (hw : swappedStores [tg] e X.env = pure none := by rfl)
    (h1 : (assignEach [tg] X.env).map (·.2) = [assign tg X.env] := by rfl) : JS X W ios (.Assign [tg] e pos) (asgS g c) :=
  ps_imp (ps_asg h hg hs hw h1) fun D σ H ⟨F, own, ρ, hp, he, po⟩ => ⟨F, own, ρ, hp, he, PostS.bind he po fun own1 x H1 a ρ1 g1 e1 r1 p1 => by
    refine ⟨F, own1, ρ1, a, hp, e1, r1, ?_⟩
    cases hg : g a ρ1 with
    | none => rw [hg] at p1; exact p1
    | some ρ' => rw [hg] at p1; exact fun own' σ' H' g' e' => p1 own' σ' H' g' e'⟩
/-- name op= value -/
def augS (i : Nat) (f : Dt → Dt → Option Dt) (c : C Dt) : S := fun ρ0 => match ρ0[i]? with
  | some (some (.v x)) => (bindS c fun y ρ => match f x y with | some z => .next (setR ρ i (.v z)) | none => .stuck) ρ0
  | _ => .stuck
theorem js_aug {i : Nat} {x : Str} {c : C Dt} {op : Operator} {r : R2} {f : Dt → Dt → Option Dt} (hop : OpR X (inplaceOp op) r) (hf : OpD X.K X.mg r f) (hN : X.N.Nodup) (hi : X.N[i]? = some x) (hx : Loc X.env.scope x) (h : JE X W ios e c) (ho : i ∉ ios) (hfn : X.fn x = true ∨ X.env.scope.names.lookup x = some .local := by first | exact .inl rfl | exact .inr rfl) :
    JS X W ios (.AugAssign (.Name x pos') op e pos) (augS i f c) :=
  ps_imp (ps_aug (ti := r) hN hi hx h hop hfn) fun D σ H ⟨F, own, ρ, hp, he, po⟩ => by
    unfold augS at po
    split at po
    · rename_i y hy
      obtain ⟨v, h1, r1⟩ := he.slot i _ hy
      refine ⟨v, h1, F, own, ρ, hp, he, PostS.bind he po fun own1 z H1 d ρ1 g1 e1 r2 p1 => ?_⟩
      cases hz : f y d with
      | none => simp only [hz] at p1; exact p1.elim
      | some w =>
        simp only [hz] at p1
        exact hf own1 H1 y d v z w _ (.inl (RepD.mono g1.fre r1)) (.inl r2) hz fun own' H' u x4 r4 => p1 own' _ H' x4.good ((e1.ext x4).set (t := .v w) (by rw [hp]; exact ho) r4)
    · exact po.elim
def rAugA : R2 := fun x y H Q => (rI0 fun i j => .int (i + j)) x y H Q ∨ (fun x y H Q => ∃ i j, x = .str i ∧ y = .str j ∧ i.length + j.length ≤ sizeLine ∧ Q (.str (i ++ j)) H) x y H Q
def dAddI : Dt → Dt → Option Dt
  | .int i, .int j => some (.int (i + j))
  | .str s, .str t => if fits (s.length + t.length) then some (.str (s ++ t)) else none
  | _, _ => none
theorem opd_addI {K : PySem.W.Frag} {mg : Str → Option Value} : OpD K mg rAugA dAddI := by
  intro own H a b x y d Q ra rb hf h
  unfold dAddI at hf
  split at hf
  · rename_i i j
    cases hf
    exact .inl ⟨i, j, pk_int ra, pk_int rb, flat_end h (rep_int _)⟩
  · rename_i s t
    split at hf
    · rename_i hz
      cases hf
      exact .inr ⟨mkS s, mkS t, pk_str ra, pk_str rb, by rw [mkS_len, mkS_len]; exact fits_le hz, flat_end h (rep_str' (mkS_app s t))⟩
    · cases hf
  · cases hf
theorem iop_addA {X : Cx} : OpR X (inplaceOp .Add) rAugA := iop_add.or iop_add_str
/-! ### loops -/
def loopD (g : G) (body : S) : List Dt → S
  | [], ρ => .next ρ
  | d :: ds, ρ => match g d ρ with
    | none => .stuck
    | some ρ1 => match body ρ1 with
      | .next ρ2 => loopD g body ds ρ2
      | .cont ρ2 => loopD g body ds ρ2
      | .brk ρ2 => .next ρ2
      | o => o
def forS (ci : C (List Dt)) (g : G) (body : S) : S := bindS ci fun ds => loopD g body ds
theorem js_for {tg iter : Expr} {body : List Stmt} {ci : C (List Dt)} {g : G} {cb : S} (hpo : PassesOwn (model X.prog X.w) X.A X.env X.xe) (hc : X.calm = true) (hi : JI X W ios tg iter ci) (hg : JG X ios tg g) (hb : JSs X W ios body cb)
    (hs : ∀ x, foldedSetIterable iter X.env x = pure x := by intro _; rfl) : JS X W ios (.For tg iter body [] pos) (forS ci g cb) :=
  ps_imp (ps_for hpo hc hi hg hb hs) fun D σ H ⟨F, own, ρ, hp, he, po⟩ => by
    refine ⟨F, own, ρ, hp, he, PostS.bind he po fun own0 J H0 ds ρ0 g0 e0 it p0 => ?_⟩
    refine ⟨fun i m σ1 H1 => ∃ own1 ρ1, i + m = ds.length ∧ Good own0 H0 own1 H1 ∧ Env X.K X.mg F own1 σ1 H1 ρ1 ∧ PostS X.K X.mg W F own1 H1 (loopD g cb (ds.drop i) ρ1) D,
      ⟨ds.length, own0, ρ0, by omega, Good.refl, e0, by rw [List.drop_zero]; exact p0⟩, fun i m σ1 H1 ⟨own1, ρ1, em, g1, e1, p1⟩ => ?_⟩
    obtain ⟨itg, its⟩ := it own1 H1 g1
    by_cases hi : i < ds.length
    · obtain ⟨go, yl⟩ := itg i ds[i] (List.getElem?_eq_getElem hi)
      rw [List.drop_eq_getElem_cons hi] at p1
      unfold loopD at p1
      cases hg1 : g ds[i] ρ1 with
      | none => rw [hg1] at p1; exact p1.elim
      | some ρ2 =>
        rw [hg1] at p1
        simp only at p1
        refine .inr ⟨go, fun σ' H' => ∃ own' ρ', Good own0 H0 own' H' ∧ Env X.K X.mg F own' σ' H' ρ' ∧ PostS X.K X.mg W F own' H' (loopD g cb (ds.drop (i + 1)) ρ') D, fun σ' H' ⟨own', ρ', a1, a2, a3⟩ => ⟨m - 1, by omega, own', ρ', by omega, a1, a2, a3⟩, fun x H' hy => ?_⟩
        obtain ⟨own', x4, r4⟩ := yl x H' hy
        refine ⟨F, own', ρ1, ds[i], hp, e1.ext x4, r4, ?_⟩
        rw [hg1]
        simp only
        intro own2 σ2 H2 g2 e2
        refine ⟨F, own2, ρ2, hp, e2, ?_⟩
        have gg := x4.good.trans g2
        cases hb1 : cb ρ2 with
        | next ρ3 =>
          rw [hb1] at p1
          exact fun own3 σ3 H3 g3 e3 => ⟨own3, ρ3, (g1.trans gg).trans g3, e3, PostS.move (gg.trans g3) p1⟩
        | cont ρ3 =>
          rw [hb1] at p1
          exact fun own3 σ3 H3 g3 e3 => ⟨own3, ρ3, (g1.trans gg).trans g3, e3, PostS.move (gg.trans g3) p1⟩
        | brk ρ3 =>
          rw [hb1] at p1
          exact fun own3 σ3 H3 g3 e3 => p1 own3 σ3 H3 (gg.trans g3) e3
        | ret t ρ3 =>
          rw [hb1] at p1
          have p2 := PostS.move gg p1
          cases t <;> exact p2
        | exc x ρ3 =>
          rw [hb1] at p1
          exact PostS.move gg p1
        | stuck => rw [hb1] at p1; exact p1
    · have hi2 : i = ds.length := by omega
      subst hi2
      rw [List.drop_length] at p1
      exact .inl ⟨its, p1 own1 σ1 H1 Good.refl e1⟩
/-- a while, at most so many turns -/
def whileD (c : C Bool) (body : S) : Nat → S
  | 0, _ => .stuck
  | n + 1, ρ => match c ρ with
    | .stuck => .stuck
    | .exc x ρ1 => .exc x ρ1
    | .ok false ρ1 => .next ρ1
    | .ok true ρ1 => match body ρ1 with
      | .next ρ2 => whileD c body n ρ2
      | .cont ρ2 => whileD c body n ρ2
      | .brk ρ2 => .next ρ2
      | o => o
theorem js_while {c : Expr} {body : List Stmt} {cc : C Bool} {cb : S} (n : Nat) (hpo : PassesOwn (model X.prog X.w) X.A X.env X.xe) (hc : JT X W ios c cc) (hb : JSs X W ios body cb) : JS X W ios (.While c body [] pos) (whileD cc cb n) :=
  ps_imp (ps_while hpo hc hb) fun D σ H ⟨F, own, ρ, hp, he, po⟩ => by
    refine ⟨fun m σ1 H1 => ∃ own1 ρ1, Good own H own1 H1 ∧ Env X.K X.mg F own1 σ1 H1 ρ1 ∧ PostS X.K X.mg W F own1 H1 (whileD cc cb m ρ1) D, ⟨n, own, ρ, Good.refl, he, po⟩, fun m σ1 H1 ⟨own1, ρ1, g1, e1, p1⟩ => ?_⟩
    refine ⟨F, own1, ρ1, hp, e1, ?_⟩
    cases m with
    | zero => exact p1.elim
    | succ m =>
      unfold whileD at p1
      cases h : cc ρ1 with
      | stuck => rw [h] at p1; exact p1
      | exc x ρ2 => rw [h] at p1; exact fun own' cls dd H' g e r => p1 own' cls dd σ1 H' g e r
      | ok b ρ2 =>
        rw [h] at p1
        intro own2 b2 H2 g2 e2 r2
        obtain rfl : b = b2 := r2
        cases b with
        | false =>
          simp only at p1
          exact p1 own2 σ1 H2 g2 e2
        | true =>
          simp only at p1
          rw [if_pos rfl]
          refine ⟨fun σ' H' => ∃ own' ρ', Good own H own' H' ∧ Env X.K X.mg F own' σ' H' ρ' ∧ PostS X.K X.mg W F own' H' (whileD cc cb m ρ') D, fun σ' H' q => ⟨m, by omega, q⟩, F, own2, ρ2, hp, e2, ?_⟩
          cases hb1 : cb ρ2 with
          | next ρ3 =>
            rw [hb1] at p1
            exact fun own3 σ3 H3 g3 e3 => ⟨own3, ρ3, (g1.trans g2).trans g3, e3, PostS.move (g2.trans g3) p1⟩
          | cont ρ3 =>
            rw [hb1] at p1
            exact fun own3 σ3 H3 g3 e3 => ⟨own3, ρ3, (g1.trans g2).trans g3, e3, PostS.move (g2.trans g3) p1⟩
          | brk ρ3 =>
            rw [hb1] at p1
            exact fun own3 σ3 H3 g3 e3 => p1 own3 σ3 H3 (g2.trans g3) e3
          | ret t ρ3 =>
            rw [hb1] at p1
            have p2 := PostS.move g2 p1
            cases t <;> exact p2
          | exc x ρ3 =>
            rw [hb1] at p1
            exact PostS.move g2 p1
          | stuck => rw [hb1] at p1; exact p1
end
end DL
end
section
set_option Elab.async false
set_option linter.all false
set_option maxRecDepth 100000
set_option maxHeartbeats 4000000
namespace DL
open PySem PySem.Spec PyProof.Rows L2
/-! ## defs -/
inductive FOut where
  | ret (t : Tr) (ts : List (Option Tr)) | exc (x : Dx) (ts : List (Option Tr)) | stuck
abbrev Fn := List Tr → FOut
/-- a def's body over its arguments: n parameters, N names -/
def runF (n N : Nat) (c : S) : Fn := fun ts => match c (ts.map some ++ List.replicate (N - ts.length) none) with
  | .next ρ => .ret (.v .non) (ρ.take n)
  | .ret t ρ => .ret t (ρ.take n)
  | .exc x ρ => .exc x (ρ.take n)
  | _ => .stuck
section
variable (K : PySem.W.Frag) (mg : Str → Option Value)
def BackOk (own : Own) (H : Hp) (vs : List V) (ios : List Nat) (ts : List (Option Tr)) : Prop := ∀ i ∈ ios, ∀ t, ts[i]? = some (some t) → ∃ x, vs[i]? = some x ∧ RepT K mg own H i t x
def PostF (own : Own) (H : Hp) (vs : List V) (ios : List Nat) (r : FOut) (Q : VK) (E : XK) : Prop := match r with
  | .ret t ts => ∀ own' v H', Good own H own' H' → BackOk K mg own' H' vs ios ts → repF K mg H own' H' t v → Q v H'
  | .exc x ts => ∀ own' cls dd H', Good own H own' H' → BackOk K mg own' H' vs ios ts → RepX K mg own' H' x cls dd → E cls dd H'
  | .stuck => False
structure ArgsOk (own : Own) (H : Hp) (n : Nat) (ios : List Nat) (ts : List Tr) (vs : List V) : Prop where
  lv : vs.length = n
  lt : ts.length = n
  rep : ∀ i t, ts[i]? = some t → ∃ x, vs[i]? = some x ∧ RepT K mg own H i t x
  mine : ∀ b i o, own b = .mine i → H b = some o → i ∈ ios ∧ vs[i]? = some (.ref b)
  io : ∀ i ∈ ios, ∃ d, ts[i]? = some (.o d)
def spD (n : Nat) (ios : List Nat) (m : Fn) : Sp := fun vs H Q E => ∃ own ts, ArgsOk K mg own H n ios ts vs ∧ PostF K mg own H vs ios (m ts) Q E
end
section
variable {K : PySem.W.Frag} {mg : Str → Option Value}
theorem spD_len {n : Nat} {ios : List Nat} {m : Fn} {ps : List Str} (h : ps.length = n) (vs : List V) (H : Hp) (Q : VK) (E : XK) (q : spD K mg n ios m vs H Q E) : vs.length = ps.length := by
  obtain ⟨own, ts, a, _⟩ := q
  rw [h]
  exact a.lv
theorem start_get {N : List Str} {vs : List V} {i : Nat} {x : V} (h : vs[i]? = some x) : (L2.start N vs)[i]? = some (some x) := by
  have hi : i < vs.length := (List.getElem?_eq_some_iff.mp h).1
  unfold L2.start
  rw [List.getElem?_append_left (by simpa using hi), List.getElem?_map, h]
  rfl
/-- THE RULE: the body run at the entry -/
theorem fn_end {X : Cx} {N : List Str} {n : Nat} {ios : List Nat} {c : S} {body : List Stmt} {vs : List V} {H : Hp} {Q : VK} {E : XK} (hn : n ≤ N.length) (hj : JSs X (fun cls d _ H => E cls d H) ios body c) (hs : spD X.K X.mg n ios (runF n N.length c) vs H Q E) :
    ∃ t, PSs X body t ∧ t { nx := fun _ H' => Q .non H', rt := Q } (L2.start N vs) H := by
  obtain ⟨own, ts, a, po⟩ := hs
  refine ⟨_, hj, ?_⟩
  -- where the owned arguments stand
  have adr : ∀ i ∈ ios, ∃ b, vs[i]? = some (.ref b) := fun i hi => by
    obtain ⟨d, e⟩ := a.io i hi
    obtain ⟨x, e1, r⟩ := a.rep i _ e
    obtain ⟨b, e2, _⟩ := r
    exact ⟨b, by rw [e1, e2]⟩
  let ad : Nat → Addr := fun i => match vs[i]? with | some (.ref b) => b | _ => 0
  have had : ∀ i ∈ ios, vs[i]? = some (.ref (ad i)) := fun i hi => by
    obtain ⟨b, e⟩ := adr i hi
    have : ad i = b := by show (match vs[i]? with | some (.ref b) => b | _ => 0) = b; rw [e]
    rw [this]
    exact e
  have el : (L2.start N vs).length = N.length := by unfold L2.start; rw [List.length_append, List.length_map, List.length_replicate, a.lv]; omega
  have env : Env X.K X.mg ⟨H, ios.map fun i => (i, ad i)⟩ own (L2.start N vs) H (ts.map some ++ List.replicate (N.length - ts.length) none) := by
    refine ⟨by rw [el, List.length_append, List.length_map, List.length_replicate, a.lt]; omega, fun i t h => ?_, fun b i o h1 h2 => ?_, fun p hp => ?_, fun b o h => ⟨o, h⟩⟩
    · by_cases hi : i < ts.length
      · rw [List.getElem?_append_left (by simpa using hi), List.getElem?_map] at h
        cases e : ts[i]? with
        | none => rw [e] at h; cases h
        | some t' =>
          rw [e] at h
          cases h
          obtain ⟨x, e1, r⟩ := a.rep i t e
          exact ⟨x, start_get e1, r⟩
      · rw [List.getElem?_append_right (by simpa using hi), List.getElem?_replicate] at h
        split at h <;> cases h
    · obtain ⟨q1, q2⟩ := a.mine b i o h1 h2
      refine .inr (List.mem_map.mpr ⟨i, q1, ?_⟩)
      have := had i q1
      rw [q2] at this
      cases this
      rfl
    · obtain ⟨i, hi, e⟩ := List.mem_map.mp hp
      subst e
      exact start_get (had i hi)
  have hpin : (ios.map fun i => (i, ad i)).map (·.1) = ios := by rw [List.map_map]; simp [Function.comp_def]
  refine ⟨⟨H, ios.map fun i => (i, ad i)⟩, own, _, hpin, env, ?_⟩
  unfold runF at po
  have back : ∀ {own' : Own} {σ' : L2.St} {H' : Hp} {ρ' : Rho}, Env X.K X.mg ⟨H, ios.map fun i => (i, ad i)⟩ own' σ' H' ρ' → BackOk X.K X.mg own' H' vs ios (ρ'.take n) := fun {own' σ' H' ρ'} e i hi t h => by
    have h' : ρ'[i]? = some (some t) := by
      rw [List.getElem?_take] at h
      split at h
      · exact h
      · cases h
    obtain ⟨x, q1, q2⟩ := e.slot i t h'
    have q3 := e.pin (i, ad i) (List.mem_map.mpr ⟨i, hi, rfl⟩)
    simp only at q3
    rw [q1] at q3
    cases q3
    exact ⟨_, had i hi, q2⟩
  generalize hc : c (ts.map some ++ List.replicate (N.length - ts.length) none) = r at po
  cases r with
  | next ρ' => exact fun own' σ' H' g e => po own' .non H' g (back e) (show RepD X.K X.mg own' H' .non .non from rep_non)
  | ret t ρ' =>
    cases t with
    | v d => exact fun own' σ' x H' g e r => po own' x H' g (back e) r
    | o d => exact fun own' σ' b H' g e h0 ho r => po own' (.ref b) H' g (back e) ⟨b, rfl, h0, ho, r⟩
  | exc x ρ' => exact fun own' cls dd σ' H' g e r => po own' cls dd H' g (back e) r
  | brk ρ' => exact po.elim
  | cont ρ' => exact po.elim
  | stuck => exact po.elim
/-! ## calls -/
/-- the arguments of a call; a slot at just the places ios, each once -/
def posOf : List Ar → Nat → Option Nat
  | [], _ => none
  | .sl j :: r, i => if j = i then some 0 else (posOf r i).map (· + 1)
  | .d _ :: r, i => (posOf r i).map (· + 1)
def argT (ρ : Rho) : Ar → Option Tr
  | .d d => some (.v d)
  | .sl i => match ρ[i]? with | some (some (.o d)) => some (.o d) | _ => none
def argTs (ρ : Rho) : List Ar → Option (List Tr)
  | [] => some []
  | a :: r => match argT ρ a, argTs ρ r with | some t, some q => some (t :: q) | _, _ => none
/-- the slots stand at the places ios, each slot at its first place -/
def slotsOk (ios : List Nat) (all : List Ar) : List Ar → Nat → Bool
  | [], _ => true
  | .sl i :: r, j => ios.contains j && (posOf all i == some j) && slotsOk ios all r (j + 1)
  | .d _ :: r, j => !ios.contains j && slotsOk ios all r (j + 1)
def backR (ts : List (Option Tr)) : List Ar → Nat → Rho → Rho
  | [], _, ρ => ρ
  | .sl i :: r, j, ρ => backR ts r (j + 1) (ρ.set i (match ts[j]? with | some o => o | none => none))
  | .d _ :: r, j, ρ => backR ts r (j + 1) ρ
/-- a call's result, and its slots behind it -/
def callR (n : Nat) (ios : List Nat) (m : Fn) (args : List Ar) : C Tr := fun ρ => match argTs ρ args with
  | none => .stuck
  | some ts => if args.length = n ∧ slotsOk ios args args 0 = true ∧ ios.all (· < n) = true then match m ts with
    | .ret t q => .ok t (backR q args 0 ρ)
    | .exc x q => .exc x (backR q args 0 ρ)
    | .stuck => .stuck
   else .stuck
theorem argTs_len {ρ : Rho} : ∀ {as : List Ar} {ts : List Tr}, argTs ρ as = some ts → ts.length = as.length
  | [], _, h => by simp only [argTs] at h; cases h; rfl
  | a :: r, _, h => by
    simp only [argTs] at h
    split at h
    · rename_i t q h1 h2
      cases h
      simp [argTs_len h2]
    · cases h
theorem argTs_get {ρ : Rho} : ∀ {as : List Ar} {ts : List Tr} {i : Nat} {a : Ar}, argTs ρ as = some ts → as[i]? = some a → ∃ t, ts[i]? = some t ∧ argT ρ a = some t
  | [], _, _, _, _, e => by simp at e
  | a :: r, _, 0, b, h, e => by
    simp only [argTs] at h
    split at h
    · rename_i t q h1 h2
      cases h
      have : a = b := by simpa using e
      subst this
      exact ⟨t, rfl, h1⟩
    · cases h
  | a :: r, _, i + 1, b, h, e => by
    simp only [argTs] at h
    split at h
    · rename_i t q h1 h2
      cases h
      obtain ⟨t', e1, e2⟩ := argTs_get (i := i) h2 (by simpa using e)
      exact ⟨t', by simpa using e1, e2⟩
    · cases h
theorem RepA.length {σ : L2.St} {own : Own} {H : Hp} : ∀ {as : List Ar} {xs : List V}, RepA K mg σ own H as xs → xs.length = as.length
  | [], _, h => by simp only [RepA] at h; rw [h]; rfl
  | a :: r, _, h => by
    simp only [RepA] at h
    obtain ⟨x, q, e, _, h2⟩ := h
    rw [e, List.length_cons, List.length_cons, RepA.length h2]
theorem RepA.get {σ : L2.St} {own : Own} {H : Hp} : ∀ {as : List Ar} {xs : List V} {i : Nat} {a : Ar}, RepA K mg σ own H as xs → as[i]? = some a → ∃ x, xs[i]? = some x ∧ repAr K mg σ own H a x
  | [], _, _, _, _, e => by simp at e
  | a :: r, _, 0, b, h, e => by
    simp only [RepA] at h
    obtain ⟨x, q, e1, h1, _⟩ := h
    have : a = b := by simpa using e
    subst this
    exact ⟨x, by rw [e1]; rfl, h1⟩
  | a :: r, _, i + 1, b, h, e => by
    simp only [RepA] at h
    obtain ⟨x, q, e1, _, h2⟩ := h
    obtain ⟨y, e3, h3⟩ := RepA.get (i := i) h2 (by simpa using e)
    exact ⟨y, by rw [e1]; simpa using e3, h3⟩
theorem slots_at {ios : List Nat} {all : List Ar} : ∀ {as : List Ar} {j k : Nat} {a : Ar}, slotsOk ios all as j = true → as[k]? = some a →
    match a with | .sl i => (j + k) ∈ ios ∧ posOf all i = some (j + k) | .d _ => (j + k) ∉ ios
  | [], _, _, _, _, e => by simp at e
  | a :: r, j, 0, b, h, e => by
    have : a = b := by simpa using e
    subst this
    cases a with
    | sl i =>
      simp only [slotsOk, Bool.and_eq_true] at h
      exact ⟨by simpa using h.1.1, by simpa using h.1.2⟩
    | d x =>
      simp only [slotsOk, Bool.and_eq_true] at h
      simpa using h.1
  | a :: r, j, k + 1, b, h, e => by
    have h2 : slotsOk ios all r (j + 1) = true := by
      cases a <;> simp only [slotsOk, Bool.and_eq_true] at h <;> exact h.2
    have := slots_at (k := k) h2 (by simpa using e)
    have e2 : j + 1 + k = j + (k + 1) := by omega
    rw [e2] at this
    exact this
theorem posOf_get : ∀ {as : List Ar} {i j : Nat}, posOf as i = some j → as[j]? = some (.sl i)
  | [], _, _, h => by simp [posOf] at h
  | .sl k :: r, i, j, h => by
    simp only [posOf] at h
    split at h
    · rename_i e
      cases h
      rw [e]
      rfl
    · cases hp : posOf r i with
      | none => rw [hp] at h; cases h
      | some q =>
        rw [hp] at h
        cases h
        simpa using posOf_get hp
  | .d x :: r, i, j, h => by
    simp only [posOf] at h
    cases hp : posOf r i with
    | none => rw [hp] at h; cases h
    | some q =>
      rw [hp] at h
      cases h
      simpa using posOf_get hp
theorem backR_len {q : List (Option Tr)} : ∀ {as : List Ar} {j : Nat} {ρ : Rho}, (backR q as j ρ).length = ρ.length
  | [], _, _ => rfl
  | .sl i :: r, j, ρ => by simp only [backR]; rw [backR_len, List.length_set]
  | .d _ :: r, j, ρ => by simp only [backR]; rw [backR_len]
theorem posOf_none_of : ∀ {as : List Ar} {i : Nat}, (∀ k : Nat, as[k]? ≠ some (Ar.sl i)) → posOf as i = none
  | [], _, _ => rfl
  | .sl k :: r, i, h => by
    simp only [posOf]
    have : k ≠ i := fun e => h 0 (by rw [e]; rfl)
    rw [if_neg this, posOf_none_of (as := r) fun k => h (k + 1)]
    rfl
  | .d x :: r, i, h => by
    simp only [posOf]
    rw [posOf_none_of (as := r) fun k => h (k + 1)]
    rfl
/-- behind the call a slot holds what came back at its place -/
theorem backR_get {q : List (Option Tr)} : ∀ {as : List Ar} {j : Nat} {ρ : Rho} {i : Nat} {t : Tr}, (backR q as j ρ)[i]? = some (some t) →
    (posOf as i = none ∧ ρ[i]? = some (some t)) ∨ ∃ k, as[k]? = some (.sl i) ∧ q[j + k]? = some (some t)
  | [], _, _, _, _, h => .inl ⟨rfl, h⟩
  | .sl k :: r, j, ρ, i, t, h => by
    simp only [backR] at h
    rcases backR_get (as := r) h with ⟨h1, h2⟩ | ⟨m, h1, h2⟩
    · by_cases e : k = i
      · subst e
        have hl : k < ρ.length := by
          have := (List.getElem?_eq_some_iff.mp h2).1
          rwa [List.length_set] at this
        rw [List.getElem?_set_self hl] at h2
        refine .inr ⟨0, rfl, ?_⟩
        rw [Nat.add_zero]
        cases hq : q[j]? with
        | none => rw [hq] at h2; cases h2
        | some o =>
          rw [hq] at h2
          have e2 : o = some t := Option.some.inj h2
          rw [e2]
      · rw [List.getElem?_set_ne e] at h2
        exact .inl ⟨by simp only [posOf]; rw [if_neg e, h1]; rfl, h2⟩
    · exact .inr ⟨m + 1, by simpa using h1, by rw [← h2]; congr 1; omega⟩
  | .d x :: r, j, ρ, i, t, h => by
    simp only [backR] at h
    rcases backR_get (as := r) h with ⟨h1, h2⟩ | ⟨m, h1, h2⟩
    · exact .inl ⟨by simp only [posOf]; rw [h1]; rfl, h2⟩
    · exact .inr ⟨m + 1, by simpa using h1, by rw [← h2]; congr 1; omega⟩
/-- the labels that the callee sees -/
def ownIn (own : Own) (σ : L2.St) (args : List Ar) : Own := fun b => match own b with
  | .free => .free
  | .other => .other
  | .mine i => match posOf args i with
    | some j => if σ[i]? = some (some (.ref b)) then .mine j else .other
    | none => .other
/-- the caller's labels behind the call -/
def ownOut (own : Own) (H : Hp) (σ : L2.St) (args : List Ar) (own' : Own) : Own := fun b => if (H b).isNone then (if own' b = .free then .free else .other) else match own b with
  | .free => .free
  | .other => .other
  | .mine i => match posOf args i with
    | some j => if σ[i]? = some (some (.ref b)) then (if own' b = .mine j then .mine i else if own' b = .free then .free else .other) else .mine i
    | none => .mine i
theorem call_sp {F : Fi} {own : Own} {σ : L2.St} {H : Hp} {ρ : Rho} {W : WX} {n : Nat} {ios : List Nat} {m : Fn} {args : List Ar} {vs : List V} {Q : VK} (he : Env K mg F own σ H ρ) (ra : RepA K mg σ own H args vs)
    (po : PostR K mg W F own σ H (repF K mg) (callR n ios m args ρ) Q) : spD K mg n ios m vs H Q (fun cls d H => W cls d σ H) := by
  unfold callR at po
  cases ht : argTs ρ args with
  | none => rw [ht] at po; exact po.elim
  | some ts =>
    rw [ht] at po
    simp only at po
    split at po
    case isFalse => exact po.elim
    rename_i hc
    obtain ⟨hn, hs, hio⟩ := hc
    have slotAt : ∀ i j, posOf args i = some j → ∃ d x a, ρ[i]? = some (some (.o d)) ∧ σ[i]? = some (some x) ∧ vs[j]? = some x ∧ x = .ref a ∧ own a = .mine i ∧ RepO K mg own H d a ∧ ts[j]? = some (.o d) ∧ j ∈ ios := fun i j hp => by
      have ha := posOf_get hp
      obtain ⟨t, e1, e2⟩ := argTs_get ht ha
      obtain ⟨x, e3, e4⟩ := ra.get ha
      unfold argT at e2
      simp only at e2
      split at e2
      · rename_i d hd
        cases e2
        obtain ⟨y, q1, a, q2, q3, q4⟩ := he.slot i _ hd
        have e4' : σ[i]? = some (some x) := e4
        rw [q1] at e4'
        cases e4'
        have := slots_at hs ha
        simp only at this
        exact ⟨d, x, a, hd, q1, e3, q2, q3, q4, e1, by simpa using this.1⟩
      · cases e2
    have freIn : Fre own H (ownIn own σ args) H := ⟨fun b o hb f => ⟨hb, by unfold ownIn; rw [f]⟩⟩
    have otherIn : ∀ b, own b = .other → ownIn own σ args b = .other := fun b f => by unfold ownIn; rw [f]
    have aok : ArgsOk K mg (ownIn own σ args) H n ios ts vs := by
      refine ⟨by rw [ra.length, hn], by rw [argTs_len ht, hn], fun j t hj => ?_, fun b j o hb ho => ?_, fun j hj => ?_⟩
      · have hl : j < args.length := by rw [← argTs_len ht]; exact (List.getElem?_eq_some_iff.mp hj).1
        obtain ⟨t', e1, e2⟩ := argTs_get ht (List.getElem?_eq_getElem hl)
        rw [hj] at e1
        cases e1
        obtain ⟨x, e3, e4⟩ := ra.get (List.getElem?_eq_getElem hl)
        refine ⟨x, e3, ?_⟩
        have hsl := slots_at hs (List.getElem?_eq_getElem hl)
        generalize args[j] = ar at e2 e4 hsl
        cases ar with
        | d d =>
          simp only [argT] at e2
          cases e2
          exact RepD.mono freIn e4
        | sl i =>
          simp only [Nat.zero_add] at hsl
          obtain ⟨d, x', a, h1, h2, h3, h4, h5, h6, h7, _⟩ := slotAt i j hsl.2
          rw [hj] at h7
          cases h7
          rw [e3] at h3
          cases h3
          refine ⟨a, h4, ?_, h6.mono freIn fun _ h => h⟩
          unfold ownIn
          rw [h5]
          simp only [hsl.2]
          rw [if_pos (by rw [h2, h4])]
      · unfold ownIn at hb
        cases e : own b with
        | free => rw [e] at hb; cases hb
        | other => rw [e] at hb; cases hb
        | mine i =>
          rw [e] at hb
          simp only at hb
          cases hp : posOf args i with
          | none => rw [hp] at hb; cases hb
          | some k =>
            rw [hp] at hb
            simp only at hb
            split at hb
            · rename_i hσ
              cases hb
              obtain ⟨d, x', a, h1, h2, h3, h4, h5, h6, h7, h8⟩ := slotAt i j hp
              rw [h2] at hσ
              cases hσ
              exact ⟨h8, h3⟩
            · cases hb
      · have hjn : j < n := by simpa using List.all_eq_true.mp hio j hj
        have hl : j < args.length := by omega
        have hsl := slots_at hs (List.getElem?_eq_getElem hl)
        generalize hk : args[j] = ar at hsl
        cases ar with
        | d d => simp only [Nat.zero_add] at hsl; exact absurd hj hsl
        | sl i =>
          simp only [Nat.zero_add] at hsl
          obtain ⟨d, x', a, h1, h2, h3, h4, h5, h6, h7, _⟩ := slotAt i j hsl.2
          exact ⟨d, h7⟩
    refine ⟨ownIn own σ args, ts, aok, ?_⟩
    -- behind the call
    have out : ∀ {own' : Own} {H' : Hp} {q : List (Option Tr)}, Good (ownIn own σ args) H own' H' → BackOk K mg own' H' vs ios q →
        Good own H (ownOut own H σ args own') H' ∧ Env K mg F (ownOut own H σ args own') σ H' (backR q args 0 ρ) ∧ Fre own' H' (ownOut own H σ args own') H' := fun {own' H' q} g bk => by
      have some_none : ∀ {b : Addr} {o : HO}, H b = some o → (H b).isNone = false := fun h => by rw [h]; rfl
      have g2 : Good own H (ownOut own H σ args own') H' := by
        refine ⟨fun b o hb l => ?_, g.ex⟩
        have l' : ownIn own σ args b = own b := by
          rcases l with l | l <;> unfold ownIn <;> rw [l]
        obtain ⟨q1, q2⟩ := g.keep b o hb (by rw [l']; exact l)
        refine ⟨q1, ?_⟩
        unfold ownOut
        rw [some_none hb]
        rcases l with l | l <;> rw [l] <;> rfl
      have fr : Fre own' H' (ownOut own H σ args own') H' := by
        refine ⟨fun b o hb f => ⟨hb, ?_⟩⟩
        unfold ownOut
        cases hn : H b with
        | none => simp only [Option.isNone_none, if_true, f]
        | some u =>
          simp only [Option.isNone_some, Bool.false_eq_true, if_false]
          cases e : own b with
          | free => rfl
          | other =>
            obtain ⟨_, q2⟩ := g.keep b u hn (.inr (otherIn b e))
            rw [otherIn b e, f] at q2
            cases q2
          | mine i =>
            simp only
            cases hp : posOf args i with
            | none =>
              have : ownIn own σ args b = .other := by unfold ownIn; rw [e]; simp only [hp]
              obtain ⟨_, q2⟩ := g.keep b u hn (.inr this)
              rw [this, f] at q2
              cases q2
            | some j =>
              simp only
              by_cases hσ : σ[i]? = some (some (.ref b))
              · rw [if_pos hσ, if_neg (by rw [f]; intro z; cases z), if_pos f]
              · have : ownIn own σ args b = .other := by unfold ownIn; rw [e]; simp only [hp]; rw [if_neg hσ]
                obtain ⟨_, q2⟩ := g.keep b u hn (.inr this)
                rw [this, f] at q2
                cases q2
      refine ⟨g2, ⟨by rw [backR_len]; exact he.len, fun i t hi => ?_, fun b i o hb ho => ?_, he.pin, fun b o h => ?_⟩, fr⟩
      · rcases backR_get hi with ⟨hp, h1⟩ | ⟨k, hk, hq⟩
        · obtain ⟨x, q1, q2⟩ := he.slot i t h1
          refine ⟨x, q1, ?_⟩
          cases t with
          | v d => exact RepD.mono g2.fre q2
          | o d =>
            obtain ⟨a, e1, f, r⟩ := q2
            obtain ⟨u, hu⟩ := r.there
            have : ownIn own σ args a = .other := by unfold ownIn; rw [f]; simp only [hp]
            refine ⟨a, e1, ?_, r.mono g2.fre fun o' h' => (g.keep a o' h' (.inr this)).1⟩
            unfold ownOut
            rw [some_none hu, f]
            simp only [hp]
            rfl
        · rw [Nat.zero_add] at hq
          have hsl := slots_at hs hk
          simp only [Nat.zero_add] at hsl
          obtain ⟨d0, x', a, h1, h2, h3, h4, h5, h6, h7, h8⟩ := slotAt i k hsl.2
          obtain ⟨x, q1, q2⟩ := bk k h8 t hq
          rw [h3] at q1
          cases q1
          refine ⟨_, h2, ?_⟩
          cases t with
          | v d => exact RepD.mono fr q2
          | o d =>
            obtain ⟨c, e1, f, r⟩ := q2
            rw [h4] at e1
            cases e1
            obtain ⟨u, hu⟩ := h6.there
            refine ⟨_, h4, ?_, r.mono fr fun _ h => h⟩
            unfold ownOut
            rw [some_none hu, h5]
            simp only [hsl.2]
            rw [if_neg Bool.false_ne_true, if_pos (by rw [h2, h4]), if_pos f]
      · unfold ownOut at hb
        cases hn : H b with
        | none =>
          rw [hn] at hb
          simp only [Option.isNone_none, if_true] at hb
          split at hb <;> cases hb
        | some u =>
          rw [hn] at hb
          simp only [Option.isNone_some, Bool.false_eq_true, if_false] at hb
          cases e : own b with
          | free => rw [e] at hb; cases hb
          | other => rw [e] at hb; cases hb
          | mine k =>
            rw [e] at hb
            simp only at hb
            have hki : k = i := by
              split at hb
              · split at hb
                · split at hb
                  · injection hb
                  · split at hb <;> cases hb
                · injection hb
              · injection hb
            subst hki
            exact he.nw b k u e hn
      · obtain ⟨o', h'⟩ := he.ex b o h
        exact g2.ex b o' h'
    cases hm : m ts with
    | stuck => rw [hm] at po; exact po.elim
    | ret t q =>
      rw [hm] at po
      intro own' v H' g bk r
      obtain ⟨g2, e2, fr⟩ := out g bk
      refine po _ v H' g2 e2 ?_
      cases t with
      | v d => exact RepD.mono fr r
      | o d =>
        obtain ⟨a, e1, hn, ho, ro⟩ := r
        refine ⟨a, e1, hn, ?_, ro.mono fr fun _ h => h⟩
        unfold ownOut
        rw [hn]
        simp only [Option.isNone_none, if_true]
        rw [if_neg (by rw [ho]; intro z; cases z)]
    | exc x q =>
      rw [hm] at po
      intro own' cls dd H' g bk r
      obtain ⟨g2, e2, fr⟩ := out g bk
      refine po _ cls dd H' g2 e2 ?_
      obtain ⟨C, h1, h2, h3⟩ := r
      refine ⟨C, h1, h2, ?_⟩
      rcases h3 with h3 | ⟨dd', q', e1, f, h4, h5⟩
      · exact .inl h3
      · refine .inr ⟨dd', q', e1, (fr.keep dd' _ h4 f).2, h4, fun z y hz => ?_⟩
        obtain ⟨x', e3, r3⟩ := h5 z y hz
        exact ⟨x', e3, r3.mono fr⟩
end
end DL
end
section
set_option Elab.async false
set_option linter.all false
set_option maxRecDepth 100000
set_option maxHeartbeats 4000000
namespace DL
open PySem PySem.Spec PyProof.Rows L2
section
variable {X : Cx} {W : WX} {ios : List Nat} {e a b o : Expr} {es : List Expr} {pos p apos : Pos}
/-! ## arguments -/
theorem ja_nil : JA X W ios [] (ret []) := pa_imp pa_nil fun σ H Q ⟨F, own, ρ, hp, he, po⟩ => po own [] H Good.refl he (by show RepA X.K X.mg σ own H [] []; simp only [RepA])
def aCons (c : C Ar) (r : C (List Ar)) : C (List Ar) := bindR c fun d => bindR r fun ds => ret (d :: ds)
theorem ja_cons {c : C Ar} {r : C (List Ar)} (h : JQ X W ios e c) (hr : JA X W ios es r) (hs : starEach (e :: es) X.env = (false, eval e X.env) :: starEach es X.env := by rfl) : JA X W ios (e :: es) (aCons c r) :=
  pa_imp (pa_cons h hr hs) fun σ H Q ⟨F, own, ρ, hp, he, po⟩ =>
    ⟨F, own, ρ, hp, he, PostR.bind anti_A po fun own1 x H1 a ρ1 g1 e1 r1 p1 => ⟨F, own1, ρ1, hp, e1, PostR.bind anti_A p1 fun own2 y H2 l ρ2 g2 e2 r2 p2 =>
      p2 own2 _ H2 Good.refl e2 (by show RepA X.K X.mg σ own2 H2 (a :: l) (x :: y); simp only [RepA]; exact ⟨x, y, rfl, repAr_mono g2 r1, r2⟩)⟩⟩
/-! ## calls of defs -/
structure Df (P : Program) (w : World) (K : PySem.W.Frag) (mg : Str → Option Value) (base : Heap) (x : Str) (k n : Nat) (ios : List Nat) (m : Fn) : Prop where
  ex : ∃ (f : Addr) (fd : FuncData) (ps : List Str), FnOk P w K mg base (L2.CX P w) k f fd ps (spD K mg n ios m) ∧ mg x = some (.ref f) ∧ PySem.W.keepIn K (.ref f) = true ∧ Binds K fd ps []
def cCall (n : Nat) (ios : List Nat) (m : Fn) (ca : C (List Ar)) : C Tr := bindR ca fun args => callR n ios m args
theorem jf_call {x : Str} {k n : Nat} {ios' : List Nat} {m : Fn} {ca : C (List Ar)} (D : Df X.prog X.w X.K X.mg X.base x k n ios' m) (hr : Room k X.A) (tk : Takes X W) (ha : JA X W ios (e :: es) ca) (hg : Gl X x := by rfl) (hdb : (x == ("__debug__" : Str)) = false := by decide)
    (he : starEach (e :: es) X.env = (false, eval e X.env) :: starEach es X.env := by rfl) (hpl : (backTo pos (starEach es X.env)).any (·.1) = false := by rfl) : JF X W ios (.Call (.Name x p) (e :: es) [] pos) (cCall n ios' m ca) := by
  obtain ⟨f, fd, ps, F, hm, hk, hb⟩ := D.ex
  exact pe_imp (pe_callSD F hr hg hm hk hb .nil (fun σ => passAt tk σ) ha hdb he hpl) fun σ H Q ⟨F, own, ρ, hp, he, po⟩ =>
    ⟨F, own, ρ, hp, he, PostR.bind anti_F po fun own1 vs H1 args ρ1 g1 e1 r1 p1 => by
      rw [List.append_nil]
      exact call_sp e1 r1 p1⟩
/-! ## methods -/
structure Dm (P : Program) (w : World) (K : PySem.W.Frag) (mg : Str → Option Value) (base : Heap) (c m : Str) (k n : Nat) (ios : List Nat) (fn : Fn) : Prop where
  ex : ∃ (C f : Addr) (fd : FuncData) (ps : List Str), mg c = some (.ref C) ∧ Cls K C ∧ Meth K C m f ∧ FnOk P w K mg base (L2.CX P w) k f fd ps (spD K mg n ios fn) ∧ Binds K fd ps []
def isOf (c m : Str) : Dt → Bool
  | .obj c' fs => decide (c' = c) && (fs.lookup m).isNone
  | _ => false
def cMeth (c m : Str) (n : Nat) (ios : List Nat) (fn : Fn) (co : C Ar) (ca : C (List Ar)) : C Tr := bindR co fun x => bindR (der x) fun d => if isOf c m d then (bindR ca fun args => callR n ios fn (x :: args)) else lift none
def tMethSD (C : Addr) (m : Str) (sp : Sp) (E : L2.St → XK) (ta : TE) (t : TA) : TE := fun σ H Q => ta σ H fun x H1 => ∃ a dx fs, x = .ref a ∧ H1 a = some (.ins C dx fs) ∧ fs.lookup m = none ∧ t σ H1 fun vs H2 => sp (x :: vs) H2 Q (E σ)
theorem pe_methSD {CX : CXT} {k : Nat} {f C : Addr} {fd : FuncData} {ps : List Str} {sp : Sp} {E : L2.St → XK} {m : Str} {ta : TE} {t : TA} {pl : Sem Bool} (he : PE X o ta) (c : Cls X.K C) (hm : Meth X.K C m f) (F : FnOk X.prog X.w X.K X.mg X.base CX k f fd ps sp) (hr : Room k X.A) (hb : Binds X.K fd ps []) (hx : ∀ σ, PassesAt CX X σ (E σ)) (ha : PA X (e :: es) t)
    (hst : starEach (e :: es) X.env = (false, eval e X.env) :: starEach es X.env := by rfl) (hpl : (backTo pos (starEach es X.env)).any (·.1) = false := by rfl)
    (ht : eval (.Call (.Attribute o m apos) (e :: es) [] pos) X.env = (do
      let ov ← eval o X.env
      standAt apos.atName
      let (f, first) ← holding [ov] (getMethod ov m pl)
      callWith pos f first (backTo pos (starEach (e :: es) X.env)) (backToKw pos (keywordEach [] X.env))) := by rfl) :
    PE X (.Call (.Attribute o m apos) (e :: es) [] pos) (tMethSD C m sp E ta t) := by
  refine ⟨fun pins s σ H Q I h => ?_⟩
  refine PySem.W.methodCall_KW (pl := pl) (thn (he.run pins s σ H _ I h) fun u s1 ⟨x, H1, I1, rx, a, dx, fs, ex, ea, l, q⟩ => ?_) ht
  subst ex
  obtain rfl : u = Value.ref a := rx
  refine getmeth_ok I1 ea c hm l (PySem.W.callWith_K (first := [.ref a]) (h₀ := X.base) I.ok.mod.kin hm.kp (thn (ha.run pos pins s1 σ H1 _ I1 q) fun us s2 ⟨vs, H2, I2, r, q2⟩ => ⟨I2.kIn, ?_⟩) hst hpl)
  exact run_fnSD (us := .ref a :: us) (vs := .ref a :: vs) (dvs := []) F hr hb .nil (hx σ) I2 (.cons rfl r) (by rw [List.append_nil]; exact q2)
theorem pe_meth0SD {CX : CXT} {k : Nat} {f C : Addr} {fd : FuncData} {ps : List Str} {sp : Sp} {E : L2.St → XK} {m : Str} {ta : TE} {pl : Sem Bool} (he : PE X o ta) (c : Cls X.K C) (hm : Meth X.K C m f) (F : FnOk X.prog X.w X.K X.mg X.base CX k f fd ps sp) (hr : Room k X.A) (hb : Binds X.K fd ps []) (hx : ∀ σ, PassesAt CX X σ (E σ))
    (ht : eval (.Call (.Attribute o m apos) [] [] pos) X.env = (do
      let ov ← eval o X.env
      standAt apos.atName
      let (f, first) ← holding [ov] (getMethod ov m pl)
      callWith pos f first (backTo pos (starEach [] X.env)) (backToKw pos (keywordEach [] X.env))) := by rfl) :
    PE X (.Call (.Attribute o m apos) [] [] pos) (tMethSD C m sp E ta tNil) := by
  refine ⟨fun pins s σ H Q I h => ?_⟩
  refine PySem.W.methodCall_KW (pl := pl) (thn (he.run pins s σ H _ I h) fun u s1 ⟨x, H1, I1, rx, a, dx, fs, ex, ea, l, q⟩ => ?_) ht
  subst ex
  obtain rfl : u = Value.ref a := rx
  exact getmeth_ok I1 ea c hm l (PySem.W.callWith_K0 (first := [.ref a]) I1.kIn hm.kp (run_fnSD (us := [.ref a]) (vs := [.ref a]) (dvs := []) F hr hb .nil (hx σ) I1 (.cons rfl .nil) q))
theorem meth_end {K : PySem.W.Frag} {mg : Str → Option Value} {F : Fi} {c m : Str} {Cc : Addr} {n : Nat} {ios' : List Nat} {fn : Fn} {co : C Ar} {ca : C (List Ar)} {own : Own} {σ : L2.St} {H : Hp} {ρ : Rho} {Q : VK} (hp : F.pin.map (·.1) = ios) (hC : mg c = some (.ref Cc)) (he : Env K mg F own σ H ρ)
    (po : PostR K mg W F own σ H (repF K mg) (cMeth c m n ios' fn co ca ρ) Q) : tMethSD Cc m (spD K mg n ios' fn) (fun σ => WE W σ) (cQ K mg W ios co) (cA K mg W ios ca) σ H Q := by
  refine ⟨F, own, ρ, hp, he, PostR.bind anti_F po fun own1 x H1 a ρ1 g1 e1 r1 p1 => ?_⟩
  unfold bindR der at p1
  cases h1 : deref a ρ1 with
  | none => rw [h1] at p1; exact p1.elim
  | some d =>
    rw [h1] at p1
    simp only at p1
    cases hi : isOf c m d with
    | false => rw [hi] at p1; exact p1.elim
    | true =>
      rw [hi] at p1
      simp only [if_true] at p1
      cases d with
      | obj c' fs =>
        simp only [isOf, Bool.and_eq_true, decide_eq_true_eq] at hi
        obtain ⟨hc, hl⟩ := hi
        subst hc
        obtain ⟨a', C', dx, q, ex, m', k, en, rf⟩ := pk_obj (deref_pk e1 r1 h1)
        rw [hC] at m'
        cases m'
        refine ⟨a', dx, q, ex, k, ?_, F, own1, ρ1, hp, e1, PostR.bind (c := ca) (k := fun args => callR n ios' fn (a :: args)) anti_F p1 fun own2 vs H2 args ρ2 g2 e2 r2 p2 => ?_⟩
        · cases hq : q.lookup m with
          | none => rfl
          | some v =>
            exfalso
            have key : ∀ {l : List (Str × V)} {l' : List (Str × Dt)}, l'.map (·.1) = l.map (·.1) → ∀ {v}, l.lookup m = some v → (l'.lookup m).isNone = false := by
              intro l
              induction l with
              | nil => intro l' _ v h; cases h
              | cons p l ih =>
                intro l' e v h
                cases l' with
                | nil => simp at e
                | cons p' l' =>
                  simp only [List.map_cons, List.cons.injEq] at e
                  rw [List.lookup_cons] at h ⊢
                  rw [e.1]
                  cases hh : m == p.1 with
                  | true => rfl
                  | false =>
                    rw [hh] at h
                    exact ih e.2 h
            rw [key en hq] at hl
            cases hl
        · exact call_sp e2 (by simp only [RepA]; exact ⟨x, vs, rfl, repAr_mono g2 r1, r2⟩) p2
      | _ => simp only [isOf] at hi; cases hi
theorem jf_meth {c m : Str} {k n : Nat} {ios' : List Nat} {fn : Fn} {co : C Ar} {ca : C (List Ar)} {pl : Sem Bool} (D : Dm X.prog X.w X.K X.mg X.base c m k n ios' fn) (hr : Room k X.A) (tk : Takes X W) (ho : JQ X W ios o co) (ha : JA X W ios (e :: es) ca)
    (hst : starEach (e :: es) X.env = (false, eval e X.env) :: starEach es X.env := by rfl) (hpl : (backTo pos (starEach es X.env)).any (·.1) = false := by rfl)
    (ht : eval (.Call (.Attribute o m apos) (e :: es) [] pos) X.env = (do
      let ov ← eval o X.env
      standAt apos.atName
      let (f, first) ← holding [ov] (getMethod ov m pl)
      callWith pos f first (backTo pos (starEach (e :: es) X.env)) (backToKw pos (keywordEach [] X.env))) := by rfl) :
    JF X W ios (.Call (.Attribute o m apos) (e :: es) [] pos) (cMeth c m n ios' fn co ca) := by
  obtain ⟨C, f, fd, ps, hC, hcl, hme, F, hb⟩ := D.ex
  exact pe_imp (pe_methSD (pl := pl) (E := fun σ => WE W σ) ho hcl hme F hr hb (fun σ => passAt tk σ) ha hst hpl ht) fun σ H Q ⟨F, own, ρ, hp, he, po⟩ => meth_end hp hC he po
theorem jf_meth0 {c m : Str} {k n : Nat} {ios' : List Nat} {fn : Fn} {co : C Ar} {pl : Sem Bool} (D : Dm X.prog X.w X.K X.mg X.base c m k n ios' fn) (hr : Room k X.A) (tk : Takes X W) (ho : JQ X W ios o co)
    (ht : eval (.Call (.Attribute o m apos) [] [] pos) X.env = (do
      let ov ← eval o X.env
      standAt apos.atName
      let (f, first) ← holding [ov] (getMethod ov m pl)
      callWith pos f first (backTo pos (starEach [] X.env)) (backToKw pos (keywordEach [] X.env))) := by rfl) :
    JF X W ios (.Call (.Attribute o m apos) [] [] pos) (cMeth c m n ios' fn co (ret [])) := by
  obtain ⟨C, f, fd, ps, hC, hcl, hme, F, hb⟩ := D.ex
  refine pe_imp (pe_meth0SD (pl := pl) (E := fun σ => WE W σ) ho hcl hme F hr hb (fun σ => passAt tk σ) ht) fun σ H Q ⟨F, own, ρ, hp, he, po⟩ => ?_
  obtain ⟨F1, own1, ρ1, a1, a2, a3⟩ := meth_end hp hC he po
  refine ⟨F1, own1, ρ1, a1, a2, ?_⟩
  have hm : ∀ {r : Res Ar} {Q1 Q2 : V → Hp → Prop}, PostR X.K X.mg W F1 own1 σ H (repQ X.K X.mg σ) r Q1 → (∀ v H', Q1 v H' → Q2 v H') → PostR X.K X.mg W F1 own1 σ H (repQ X.K X.mg σ) r Q2 := fun {r Q1 Q2} p i => by
    cases r with
    | ok a ρ' => exact fun own' b H' g e r => i _ _ (p own' b H' g e r)
    | exc x ρ' => exact p
    | stuck => exact p
  refine hm a3 fun v H' ⟨a, dx, fs, q1, q2, q3, F2, own2, ρ2, q4, q5, q6⟩ => ⟨a, dx, fs, q1, q2, q3, ?_⟩
  exact q6 own2 [] H' Good.refl q5 (by show RepA X.K X.mg σ own2 H' [] []; simp only [RepA])
end
end DL
end
section
set_option Elab.async false
set_option linter.all false
set_option maxRecDepth 100000
set_option maxHeartbeats 4000000
namespace DL
open PySem PySem.Spec PyProof.Rows L2
/-! ## what is walked -/
def itemsD : Dt → Option (List Dt)
  | .lst ds => some ds
  | .tup ds => some ds
  | .str s => some (s.map fun c => .str [c])
  | _ => none
section
variable {X : Cx} {W : WX} {ios : List Nat} {e a b o tg : Expr} {es : List Expr} {pos p apos : Pos}
theorem pi_or {t t' : TI} (h : PI X tg e t) (h' : PI X tg e t') : PI X tg e (fun σ H R => t σ H R ∨ t' σ H R) := ⟨fun pins s σ H R I q => q.elim (fun q => h.run pins s σ H R I q) fun q => h'.run pins s σ H R I q⟩
theorem frz_list {K : PySem.W.Frag} {mg : Str → Option Value} {own : Own} {H : Hp} {ds : List Dt} {x : V} (r : RepD K mg own H (.lst ds) x) : ∃ a xs, x = .ref a ∧ own a = .free ∧ H a = some (.lst xs) ∧ RepL K mg own H ds xs := by
  simpa only [RepD] using r
theorem it_lst {K : PySem.W.Frag} {mg : Str → Option Value} {own : Own} {H : Hp} {ds : List Dt} {a : Addr} {xs : List V} (f : own a = .free) (h : H a = some (.lst xs)) (r : RepL K mg own H ds xs) : ItOk K mg (Itl K a) own H ds := fun own1 H1 g => by
  obtain ⟨h1, f1⟩ := g.keep a _ h (.inl f)
  have hs : SqL K H1 a xs := SqL.of h1
  refine ⟨fun i d hd => ?_, xs, hs, by rw [r.length]; exact Nat.le_refl _⟩
  obtain ⟨x, hx, rx⟩ := r.get hd
  exact ⟨⟨xs, x, hs, hx⟩, fun y H' ⟨e1, e2⟩ => by
    subst e1
    have := e2 xs hs
    rw [hx] at this
    cases this
    exact ⟨own1, Ext.refl, rx.mono g.fre⟩⟩
theorem it_tup {K : PySem.W.Frag} {mg : Str → Option Value} {own : Own} {H : Hp} {ds : List Dt} {a : Addr} {xs : List V} (f : own a = .free) (h : H a = some (.tup xs)) (r : RepL K mg own H ds xs) : ItOk K mg (Itt K a) own H ds := fun own1 H1 g => by
  obtain ⟨h1, f1⟩ := g.keep a _ h (.inl f)
  have hs : SqT K H1 a xs := SqT.of h1
  refine ⟨fun i d hd => ?_, xs, hs, by rw [r.length]; exact Nat.le_refl _⟩
  obtain ⟨x, hx, rx⟩ := r.get hd
  exact ⟨⟨xs, x, hs, hx⟩, fun y H' ⟨e1, e2⟩ => by
    subst e1
    have := e2 xs hs
    rw [hx] at this
    cases this
    exact ⟨own1, Ext.refl, rx.mono g.fre⟩⟩
theorem it_str {K : PySem.W.Frag} {mg : Str → Option Value} {own : Own} {H : Hp} {s : List Nat} : ItOk K mg (Its (mkS s)) own H (s.map fun c => .str [c]) := fun own1 H1 g => by
  have hz : (mkS s).cps.size = s.length := by simp [mkS]
  refine ⟨fun i d hd => ?_, by show (mkS s).cps.size ≤ (s.map fun c => Dt.str [c]).length; rw [hz, List.length_map]; exact Nat.le_refl _⟩
  rw [List.getElem?_map] at hd
  cases hc : s[i]? with
  | none => rw [hc] at hd; cases hd
  | some c =>
    rw [hc] at hd
    cases hd
    refine ⟨by show i < (mkS s).cps.size; rw [hz]; exact (List.getElem?_eq_some_iff.mp hc).1, fun y H' ⟨e1, c', e2, e3⟩ => ?_⟩
    subst e1
    have : (mkS s).cps[i]? = s[i]? := by simp [mkS]
    rw [this, hc] at e2
    cases e2
    exact ⟨own1, Ext.refl, by subst e3; simp only [RepD]; rfl⟩
theorem it_rng {K : PySem.W.Frag} {mg : Str → Option Value} {own : Own} {H : Hp} {lo : Int} {n : Nat} : ItOk K mg (Itr lo n) own H ((List.range n).map fun i => .int (lo + (i : Nat))) := fun own1 H1 g => by
  refine ⟨fun i d hd => ?_, by show n ≤ ((List.range n).map fun i => Dt.int (lo + (i : Nat))).length; rw [List.length_map, List.length_range]; exact Nat.le_refl _⟩
  rw [List.getElem?_map] at hd
  cases hc : (List.range n)[i]? with
  | none => rw [hc] at hd; cases hd
  | some c =>
    rw [hc] at hd
    cases hd
    obtain ⟨hl, e⟩ := List.getElem?_eq_some_iff.mp hc
    rw [List.length_range] at hl
    rw [List.getElem_range] at e
    subst e
    exact ⟨hl, fun y H' ⟨e1, e2⟩ => by
      subst e1 e2
      exact ⟨own1, Ext.refl, rep_int _⟩⟩
def cIter (c : C Dt) : C (List Dt) := bindR c fun d => lift (itemsD d)
/-- a list, a tuple, a text -/
theorem ji_seq {c : C Dt} (h : JE X W ios e c) : JI X W ios tg e (cIter c) := pi_imp (pi_or (pi_list h) (pi_or (pi_tup h) (pi_str h))) fun σ H R ⟨F, own, ρ, hp, he, po⟩ => by
  unfold cIter at po
  cases hc : c ρ with
  | stuck => unfold bindR at po; rw [hc] at po; exact po.elim
  | exc x ρ' =>
    unfold bindR at po; rw [hc] at po
    exact .inl ⟨F, own, ρ, hp, he, by rw [hc]; exact po⟩
  | ok d ρ' =>
    unfold bindR at po; rw [hc] at po
    simp only at po
    cases d with
    | lst ds =>
      refine .inl ⟨F, own, ρ, hp, he, by
        rw [hc]
        intro own' v H' g e' r
        obtain ⟨p, xs, ev, f, k, rl⟩ := frz_list r
        exact ⟨p, ev, ⟨xs, SqL.of k⟩, po own' _ H' g e' (it_lst f k rl)⟩⟩
    | tup ds =>
      refine .inr (.inl ⟨F, own, ρ, hp, he, by
        rw [hc]
        intro own' v H' g e' r
        obtain ⟨p, xs, ev, f, k, rl⟩ := (show ∃ a xs, v = .ref a ∧ own' a = .free ∧ H' a = some (.tup xs) ∧ RepL X.K X.mg own' H' ds xs by simpa only [repE, RepD] using r)
        exact ⟨p, ev, ⟨xs, SqT.of k⟩, po own' _ H' g e' (it_tup f k rl)⟩⟩)
    | str s =>
      refine .inr (.inr ⟨F, own, ρ, hp, he, by
        rw [hc]
        intro own' v H' g e' r
        have r' : v = .str (mkS s) := by simpa only [repE, RepD] using r
        exact ⟨mkS s, r', po own' _ H' g e' it_str⟩⟩)
    | _ => exact po.elim
def small62 (i : Int) : Bool := decide (-(2 ^ 62) ≤ i) && decide (i < 2 ^ 62)
def rangeL (lo : Int) (n : Nat) : List Dt := (List.range n).map fun i => .int (lo + (i : Nat))
def rangeD1 : List Dt → Option (List Dt)
  | [.int j] => if small62 j then some (rangeL 0 j.toNat) else none
  | _ => none
def rangeD2 : List Dt → Option (List Dt)
  | [.int i, .int j] => if small62 i && small62 j then some (rangeL i (j - i).toNat) else none
  | _ => none
theorem small62_of {i : Int} (h : small62 i = true) : -(2 ^ 62) ≤ i ∧ i < 2 ^ 62 := by
  simpa only [small62, Bool.and_eq_true, decide_eq_true_eq] using h
def cRng1 (c : C (List Dt)) : C (List Dt) := bindR c fun ds => lift (rangeD1 ds)
def cRng2 (c : C (List Dt)) : C (List Dt) := bindR c fun ds => lift (rangeD2 ds)
theorem ji_range1 {c : C (List Dt)} (hm : X.mg "range" = none) (h : JL X W ios [a] c) (hg : Gl X "range" := by rfl) (hs : starEach [a] X.env = [(false, eval a X.env)] := by rfl) : JI X W ios tg (.Call (.Name "range" p) [a] [] pos) (cRng1 c) :=
  pi_imp (pi_range1 hg hm h hs) fun σ H R ⟨F, own, ρ, hp, he, po⟩ => ⟨F, own, ρ, hp, he, PostR.bind anti_I po fun own1 vs H1 ds ρ1 g1 e1 r1 p1 => by
    unfold rangeD1 at p1
    have hl := (show RepL X.K X.mg own1 H1 ds vs from r1)
    split at p1
    · rename_i j
      split at p1
      · rename_i hc
        obtain ⟨h1, h2⟩ := small62_of hc
        simp only [RepL, RepD] at hl
        obtain ⟨x, r, e2, e3, e4⟩ := hl
        subst e3 e4 e2
        exact ⟨j, rfl, h1, h2, p1 own1 _ H1 Good.refl e1 it_rng⟩
      · exact p1.elim
    · exact p1.elim⟩
theorem ji_range2 {c : C (List Dt)} (hm : X.mg "range" = none) (h : JL X W ios [a, b] c) (hg : Gl X "range" := by rfl) (hs : starEach [a, b] X.env = [(false, eval a X.env), (false, eval b X.env)] := by rfl) (hs2 : starEach [b] X.env = [(false, eval b X.env)] := by rfl) : JI X W ios tg (.Call (.Name "range" p) [a, b] [] pos) (cRng2 c) :=
  pi_imp (pi_range2 hg hm h hs hs2) fun σ H R ⟨F, own, ρ, hp, he, po⟩ => ⟨F, own, ρ, hp, he, PostR.bind anti_I po fun own1 vs H1 ds ρ1 g1 e1 r1 p1 => by
    unfold rangeD2 at p1
    have hl := (show RepL X.K X.mg own1 H1 ds vs from r1)
    split at p1
    · rename_i i j
      split at p1
      · rename_i hc
        obtain ⟨q1, q2⟩ := Bool.and_eq_true_iff.mp hc
        obtain ⟨h1, h2⟩ := small62_of q1
        obtain ⟨h3, h4⟩ := small62_of q2
        simp only [RepL, RepD] at hl
        obtain ⟨x, r, e2, e3, y, r', e4, e5, e6⟩ := hl
        subst e3 e5 e6 e4 e2
        exact ⟨i, j, rfl, ⟨h1, h2, h3, h4⟩, p1 own1 _ H1 Good.refl e1 it_rng⟩
      · exact p1.elim
    · exact p1.elim⟩
/-! ## list comprehensions -/
def wipeR (ρ : Rho) : List Nat → Rho
  | [] => ρ
  | v :: vs => (wipeR ρ vs).set v none
def lcLoop (vs : List Nat) (g : G) (ct : C Bool) (ce : C Dt) : List Dt → List Dt → C (List Dt)
  | [], acc, ρ => .ok acc ρ
  | d :: ds, acc, ρ => match g d ρ with
    | none => .stuck
    | some ρ1 => match ct ρ1 with
      | .ok true ρ2 => match ce ρ2 with
        | .ok y ρ3 => if acc.length < sizeLine then lcLoop vs g ct ce ds (acc ++ [y]) (wipeR ρ3 vs) else .stuck
        | _ => .stuck
      | .ok false ρ2 => lcLoop vs g ct ce ds acc (wipeR ρ2 vs)
      | _ => .stuck
/-- the block's own names are what they were, where that was frozen -/
def backV (ρ0 ρ : Rho) : List Nat → Rho
  | [] => ρ
  | v :: vs => (backV ρ0 ρ vs).set v (match ρ0[v]? with | some (some (.v d)) => some (.v d) | _ => none)
def cLc (vs : List Nat) (ci : C (List Dt)) (g : G) (ct : C Bool) (ce : C Dt) : C Tr := bindR ci fun ds ρ => match lcLoop vs g ct ce ds [] (wipeR ρ vs) with
  | .ok acc ρ' => .ok (.o (.lst acc)) (backV ρ ρ' vs)
  | .exc x ρ' => .stuck
  | .stuck => .stuck
theorem Env.wipe {K : PySem.W.Frag} {mg : Str → Option Value} {F : Fi} {own : Own} {H : Hp} : ∀ {vs : List Nat} {σ : L2.St} {ρ : Rho}, (∀ v ∈ vs, v ∉ F.pin.map (·.1)) → Env K mg F own σ H ρ → Env K mg F own (L2.wipe σ vs) H (wipeR ρ vs)
  | [], _, _, _, e => e
  | v :: vs, σ, ρ, h, e => by
    unfold L2.wipe wipeR
    exact (Env.wipe (fun u hu => h u (List.mem_cons_of_mem _ hu)) e).wipe1 (h v List.mem_cons_self)
theorem wipe_out' {σ : L2.St} {i : Nat} : ∀ {vs : List Nat}, i ∉ vs → (L2.wipe σ vs)[i]? = σ[i]?
  | [], _ => rfl
  | v :: vs, h => by
    unfold L2.wipe
    rw [List.getElem?_set_ne (fun z => h (by rw [z]; exact List.mem_cons_self)), wipe_out' fun z => h (List.mem_cons_of_mem _ z)]
/-- behind the block: the slots that are not its own are as the block left them -/
theorem Env.unwipe {K : PySem.W.Frag} {mg : Str → Option Value} {F : Fi} {own : Own} {H : Hp} {vs : List Nat} {σ : L2.St} {ρ0 ρ : Rho} (hv : ∀ v ∈ vs, v ∉ F.pin.map (·.1)) (hl : ρ.length = σ.length)
    (e : Env K mg F own (L2.wipe σ vs) H (wipeR ρ vs)) (h0 : ∀ (i : Nat) (d : Dt), ρ0[i]? = some (some (Tr.v d)) → ∃ x, σ[i]? = some (some x) ∧ RepD K mg own H d x) (ep : ∀ p ∈ F.pin, σ[p.1]? = some (some (.ref p.2))) : Env K mg F own σ H (backV ρ0 (wipeR ρ vs) vs) := by
  have bl : ∀ (us : List Nat) (r : Rho), (backV ρ0 r us).length = r.length := fun us r => by
    induction us with
    | nil => rfl
    | cons v us ih => unfold backV; rw [List.length_set, ih]
  have wl : ∀ us : List Nat, (wipeR ρ us).length = ρ.length := fun us => by
    induction us with
    | nil => rfl
    | cons v us ih => unfold wipeR; rw [List.length_set, ih]
  have get : ∀ (us : List Nat) (r : Rho) (i : Nat) (t : Tr), (backV ρ0 r us)[i]? = some (some t) → (i ∉ us ∧ r[i]? = some (some t)) ∨ ∃ d, t = .v d ∧ ρ0[i]? = some (some (.v d)) := fun us r i t h => by
    induction us with
    | nil => exact .inl ⟨by simp, h⟩
    | cons v us ih =>
      unfold backV at h
      by_cases hvi : v = i
      · subst hvi
        have hlen : v < (backV ρ0 r us).length := by
          have := (List.getElem?_eq_some_iff.mp h).1
          rwa [List.length_set] at this
        rw [List.getElem?_set_self hlen] at h
        have h := Option.some.inj h
        split at h
        · rename_i d hd
          cases h
          exact .inr ⟨d, rfl, hd⟩
        · cases h
      · rw [List.getElem?_set_ne hvi] at h
        rcases ih h with ⟨q1, q2⟩ | q
        · exact .inl ⟨fun z => by
            rcases List.mem_cons.mp z with z | z
            · exact hvi z.symm
            · exact q1 z, q2⟩
        · exact .inr q
  refine ⟨by rw [bl, wl, hl], fun i t h => ?_, e.nw, ep, e.ex⟩
  rcases get vs _ i t h with ⟨q1, q2⟩ | ⟨d, q1, q2⟩
  · obtain ⟨x, r1, r2⟩ := e.slot i t q2
    rw [wipe_out' q1] at r1
    exact ⟨x, r1, r2⟩
  · subst q1
    exact h0 i d q2
/-- an object that nobody has changes -/
theorem Env.other {K : PySem.W.Frag} {mg : Str → Option Value} {F : Fi} {own : Own} {σ : L2.St} {H : Hp} {ρ : Rho} {a : Addr} {o : HO} (e : Env K mg F own σ H ρ) (f : own a = .other) (hn : F.H0 a = none ∨ ∃ u, H a = some u) :
    Env K mg F own σ (upd H a o) ρ ∧ Fre own H own (upd H a o) := by
  have fr : Fre own H own (upd H a o) := ⟨fun b u hb fb => ⟨by
    rw [upd_ne (fun z => by rw [z, f] at fb; cases fb)]; exact hb, fb⟩⟩
  refine ⟨⟨e.len, fun i t h => ?_, fun b i u h1 h2 => ?_, e.pin, fun b u h => ?_⟩, fr⟩
  · obtain ⟨x, q1, q2⟩ := e.slot i t h
    refine ⟨x, q1, ?_⟩
    cases t with
    | v d => exact RepD.mono fr q2
    | o d =>
      obtain ⟨c, e1, fc, r⟩ := q2
      have hc : c ≠ a := fun z => by rw [z, f] at fc; cases fc
      exact ⟨c, e1, fc, r.mono fr fun w h => by rw [upd_ne hc]; exact h⟩
  · have hb : b ≠ a := fun z => by rw [z, f] at h1; cases h1
    rw [upd_ne hb] at h2
    exact e.nw b i u h1 h2
  · by_cases hb : b = a
    · subst hb; exact ⟨o, upd_same⟩
    · obtain ⟨u', h'⟩ := e.ex b u h
      exact ⟨u', by rw [upd_ne hb]; exact h'⟩
abbrev W0 : WX := fun _ _ _ _ => False
theorem wipe_len (σ : L2.St) : ∀ vs : List Nat, (L2.wipe σ vs).length = σ.length := L2.wipe_length σ
theorem wipe_get {σ : L2.St} {i : Nat} : ∀ {vs : List Nat}, (L2.wipe σ vs)[i]? = if i ∈ vs then (σ[i]?).map fun _ => none else σ[i]?
  | [] => by simp [L2.wipe]
  | v :: vs => by
    unfold L2.wipe
    by_cases hv : v = i
    · subst hv
      rw [if_pos List.mem_cons_self]
      by_cases hl : v < σ.length
      · rw [List.getElem?_set_self (by rw [wipe_len]; exact hl), List.getElem?_eq_getElem hl]
        rfl
      · rw [List.getElem?_eq_none (by rw [List.length_set, wipe_len]; omega), List.getElem?_eq_none (by omega)]
        rfl
    · rw [List.getElem?_set_ne hv, wipe_get]
      by_cases h2 : i ∈ vs
      · rw [if_pos h2, if_pos (List.mem_cons_of_mem _ h2)]
      · rw [if_neg h2, if_neg (fun z => by rcases List.mem_cons.mp z with z | z; exact hv z.symm; exact h2 z)]
theorem wipe_set {σ : L2.St} {i : Nat} {o : Option V} {vs : List Nat} (h : i ∈ vs) : L2.wipe (σ.set i o) vs = L2.wipe σ vs := List.ext_getElem? fun j => by
  rw [wipe_get, wipe_get]
  by_cases hj : i = j
  · subst hj
    rw [if_pos h, if_pos h]
    by_cases hl : i < σ.length
    · rw [List.getElem?_set_self hl, List.getElem?_eq_getElem hl]; rfl
    · rw [List.getElem?_eq_none (by rw [List.length_set]; omega), List.getElem?_eq_none (by omega)]
  · rw [List.getElem?_set_ne hj]
theorem wipe_idem {σ : L2.St} {vs : List Nat} : L2.wipe (L2.wipe σ vs) vs = L2.wipe σ vs := List.ext_getElem? fun j => by
  rw [wipe_get, wipe_get]
  by_cases h : j ∈ vs
  · rw [if_pos h, if_pos h]
    cases σ[j]? <;> rfl
  · rw [if_neg h, if_neg h]
/-- a comprehension's target: on data, and as HandS reads it -/
def TgOk (K : PySem.W.Frag) (mg : Str → Option Value) (ios vs : List Nat) (g : G) (t : TG) : Prop := ∀ v σ H (Q1 : L2.St → Hp → Prop), cG K mg ios g v (L2.wipe σ vs) H (fun σ2 H2 => L2.wipe σ2 vs = L2.wipe σ vs → Q1 σ2 H2) →
  t v (L2.wipe σ vs) H fun σ2 H2 => L2.wipe σ2 vs = L2.wipe σ vs ∧ Q1 σ2 H2
theorem tg_name {K : PySem.W.Frag} {mg : Str → Option Value} {vs : List Nat} {i : Nat} (h : i ∈ vs) (ho : i ∉ ios) : TgOk K mg ios vs (gNm i) (gName i) := fun v σ H Q1 ⟨F, own, ρ, d, hp, he, r, po⟩ => by
  have hw : L2.wipe ((L2.wipe σ vs).set i (some v)) vs = L2.wipe σ vs := by rw [wipe_set h, wipe_idem]
  exact ⟨hw, po own _ H Good.refl (he.set (t := .v d) (by rw [hp]; exact ho) r) hw⟩
def gsN : List Nat → List Dt → Rho → Option Rho
  | [] => gsNil
  | i :: is => gsCons (gNm i) (gsN is)
def gNs : List Nat → TGs
  | [] => gNil
  | i :: is => gCons (gName i) (gNs is)
theorem tg_names {K : PySem.W.Frag} {mg : Str → Option Value} {vs : List Nat} {σ0 : L2.St} {Q1 : L2.St → Hp → Prop} : ∀ {is : List Nat}, (∀ i ∈ is, i ∈ vs ∧ i ∉ ios) → ∀ {xs : List V} {σ : L2.St} {H : Hp}, L2.wipe σ vs = L2.wipe σ0 vs →
    cGs K mg ios (gsN is) xs σ H (fun σ2 H2 => L2.wipe σ2 vs = L2.wipe σ0 vs → Q1 σ2 H2) → gNs is xs σ H fun σ2 H2 => L2.wipe σ2 vs = L2.wipe σ0 vs ∧ Q1 σ2 H2
  | [], _, xs, σ, H, hw, ⟨F, own, ρ, ds, hp, he, r, po⟩ => by
    cases ds with
    | nil => simp only [RepL] at r; exact ⟨r, hw, po own σ H Good.refl he hw⟩
    | cons d q => exact po.elim
  | i :: is, hi, xs, σ, H, hw, ⟨F, own, ρ, ds, hp, he, r, po⟩ => by
    cases ds with
    | nil => exact po.elim
    | cons d q =>
      simp only [RepL] at r
      obtain ⟨x, r', e1, r1, r2⟩ := r
      obtain ⟨h1, h2⟩ := hi i List.mem_cons_self
      refine ⟨x, r', e1, tg_names (K := K) (mg := mg) (is := is) (fun j hj => hi j (List.mem_cons_of_mem _ hj)) (by rw [wipe_set h1]; exact hw) ?_⟩
      exact ⟨F, own, setR ρ i (.v d), q, hp, he.set (t := .v d) (by rw [hp]; exact h2) r1, r2, po⟩
theorem tg_tup {K : PySem.W.Frag} {mg : Str → Option Value} {vs is : List Nat} {n : Nat} (h : ∀ i ∈ is, i ∈ vs ∧ i ∉ ios) : TgOk K mg ios vs (gTu n (gsN is)) (gTup K n (gNs is)) := fun v σ H Q1 ⟨F, own, ρ, d, hp, he, r, po⟩ => by
  cases d with
  | tup ds =>
    simp only [gTu] at po
    simp only [RepD] at r
    obtain ⟨a, xs, e1, _, k, rl⟩ := r
    by_cases hl : ds.length = n
    · rw [if_pos hl] at po
      exact ⟨a, xs, e1, SqT.of k, by rw [rl.length]; exact hl, tg_names (K := K) (mg := mg) h wipe_idem ⟨F, own, ρ, ds, hp, he, rl, po⟩⟩
    · rw [if_neg hl] at po
      exact po.elim
  | _ => exact po.elim
theorem lc_end {K : PySem.W.Frag} {mg : Str → Option Value} {vs : List Nat} {ci : C (List Dt)} {g : G} {ct : C Bool} {ce : C Dt} {tg' : TG} {σ : L2.St} {H : Hp} {Q : VK} (hv : ∀ v ∈ vs, v ∉ ios)
    (htg : TgOk K mg ios vs g tg')
    (h : cF K mg W ios (cLc vs ci g ct ce) σ H Q) : tLc (cI K mg W ios ci) tg' (cB K mg W0 ios ct) (cE K mg W0 ios ce) vs σ H Q := by
  obtain ⟨F, own, ρ, hp, he, po⟩ := h
  have hv' : ∀ v ∈ vs, v ∉ F.pin.map (·.1) := by rw [hp]; exact hv
  refine ⟨F, own, ρ, hp, he, PostR.bind anti_F po fun own0 J H0 ds ρ0 g0 e0 it p0 => fun D hD => ?_⟩
  have hFD : F.H0 D = none := by
    cases h : F.H0 D with
    | none => rfl
    | some u =>
      obtain ⟨u', hu⟩ := e0.ex D u h
      rw [hu] at hD
      cases hD
  have x0 : Ext own0 H0 (setO own0 D .other) (upd H0 D (.lst [])) := Ext.new hD fun _ => by intro z; cases z
  -- what holds at turn i: the list so far, and how the rest goes
  let Inv' : Nat → Hp → Prop := fun i H1 => ∃ own1 ρ1 acc xs, Good own0 H0 own1 H1 ∧ own1 D = .other ∧ H1 D = some (.lst xs) ∧ RepL K mg own1 H1 acc xs ∧ Env K mg F own1 (L2.wipe σ vs) H1 (wipeR ρ1 vs) ∧ ρ1.length = σ.length ∧
    PostR K mg W F own0 σ H0 (repF K mg) (match lcLoop vs g ct ce (ds.drop i) acc (wipeR ρ1 vs) with | .ok acc ρ' => (.ok (.o (.lst acc)) (backV ρ0 ρ' vs) : Res Tr) | _ => .stuck) Q
  have start0 : Inv' 0 (upd H0 D (.lst [])) := by
    refine ⟨setO own0 D .other, ρ0, [], [], x0.good, setO_same, upd_same, RepL.nil, Env.wipe hv' (e0.ext x0), e0.len.symm, ?_⟩
    rw [List.drop_zero]
    have p0' := p0
    cases hq : lcLoop vs g ct ce ds [] (wipeR ρ0 vs) with
    | ok acc ρ' => rw [hq] at p0'; exact p0'
    | exc x ρ' => rw [hq] at p0'; exact p0'
    | stuck => rw [hq] at p0'; exact p0'
  refine ⟨fun i m H1 => i + m = ds.length ∧ Inv' i H1, ⟨ds.length, by omega, start0⟩, fun i m H1 ⟨em, own1, ρ1, acc, xs, g1, f1, h1, r1, e1, l1, p1⟩ => ?_⟩
  obtain ⟨itg, its⟩ := it own1 H1 g1
  by_cases hi : i < ds.length
  · obtain ⟨go, yl⟩ := itg i ds[i] (List.getElem?_eq_getElem hi)
    rw [List.drop_eq_getElem_cons hi] at p1
    unfold lcLoop at p1
    refine .inr ⟨go, Inv' (i + 1), fun H' q => ⟨m - 1, by omega, by omega, q⟩, fun x H' hy => ?_⟩
    obtain ⟨own', x4, r4⟩ := yl x H' hy
    have f4 : own' D = .other := by rw [(x4.keep D _ h1).2]; exact f1
    have h4 : H' D = some (.lst xs) := (x4.keep D _ h1).1
    have g4 := g1.trans x4.good
    refine htg x σ H' _ ⟨F, own', wipeR ρ1 vs, ds[i], hp, e1.ext x4, r4, ?_⟩
    cases hg1 : g ds[i] (wipeR ρ1 vs) with
    | none => rw [hg1] at p1; exact p1.elim
    | some ρ2 =>
      rw [hg1] at p1
      simp only at p1
      simp only
      intro own2 σ2 H2 g2 e2 hw
      have f2 : own2 D = .other := by rw [(g2.keep D _ h4 (.inr f4)).2]; exact f4
      have h2 : H2 D = some (.lst xs) := (g2.keep D _ h4 (.inr f4)).1
      refine ⟨F, own2, ρ2, hp, e2, ?_⟩
      cases hct : ct ρ2 with
      | stuck => rw [hct] at p1; exact p1.elim
      | exc y ρ3 => rw [hct] at p1; exact p1.elim
      | ok b ρ3 =>
        rw [hct] at p1
        intro own3 b3 H3 g3 e3 rb
        obtain rfl : b = b3 := rb
        have f3 : own3 D = .other := by rw [(g3.keep D _ h2 (.inr f2)).2]; exact f2
        have h3 : H3 D = some (.lst xs) := (g3.keep D _ h2 (.inr f2)).1
        cases b with
        | false =>
          simp only at p1
          rw [if_neg Bool.false_ne_true]
          refine ⟨own3, ρ3, acc, xs, (g4.trans g2).trans g3, f3, h3, r1.mono ((x4.good.trans g2).trans g3).fre, by rw [← hw]; exact Env.wipe hv' e3, ?_, p1⟩
          rw [← e3.len, ← wipe_len σ2 vs, hw, wipe_len]
        | true =>
          simp only at p1
          rw [if_pos rfl]
          refine ⟨F, own3, ρ3, hp, e3, ?_⟩
          cases hce : ce ρ3 with
          | stuck => rw [hce] at p1; exact p1.elim
          | exc y ρ4 => rw [hce] at p1; exact p1.elim
          | ok y ρ4 =>
            rw [hce] at p1
            simp only at p1
            intro own4 yv H4 g5 e4 ry
            have f5 : own4 D = .other := by rw [(g5.keep D _ h3 (.inr f3)).2]; exact f3
            have h5 : H4 D = some (.lst xs) := (g5.keep D _ h3 (.inr f3)).1
            obtain ⟨e5, fr5⟩ := e4.other (o := .lst (xs ++ [yv])) f5 (.inr ⟨_, h5⟩)
            have gg : Good own1 H1 own4 H4 := ((x4.good.trans g2).trans g3).trans g5
            by_cases hz : acc.length < sizeLine
            · rw [if_pos hz] at p1
              refine ⟨xs, h5, by rw [r1.length]; exact hz, own4, ρ4, acc ++ [y], xs ++ [yv], ⟨fun b o hb l => ?_, fun b o hb => ?_⟩, f5, upd_same, ((r1.mono gg.fre).app (RepL.one ry)).mono fr5, by rw [← hw]; exact Env.wipe hv' e5, ?_, p1⟩
              · have hbD : b ≠ D := fun z => by rw [z, hD] at hb; cases hb
                rw [upd_ne hbD]
                exact (g1.trans gg).keep b o hb l
              · have hbD : b ≠ D := fun z => by rw [z, hD] at hb; cases hb
                rw [upd_ne hbD]
                exact (g1.trans gg).ex b o hb
              · rw [← e4.len, ← wipe_len σ2 vs, hw, wipe_len]
            · rw [if_neg hz] at p1
              exact p1.elim
  · have hi2 : i = ds.length := by omega
    subst hi2
    rw [List.drop_length] at p1
    refine .inl ⟨its, ?_⟩
    simp only [lcLoop] at p1
    refine p1 own1 (.ref D) H1 g1 (Env.unwipe hv' l1 e1 (fun j d hd => ?_) (fun p hp' => ?_)) ⟨D, rfl, hD, f1, by simp only [RepO]; exact ⟨xs, h1, r1⟩⟩
    · obtain ⟨x, q1, q2⟩ := e0.slot j _ hd
      exact ⟨x, q1, RepD.mono g1.fre q2⟩
    · exact e0.pin p hp'
abbrev JTs (X : Cx) (W : WX) (ios : List Nat) (es : List Expr) (c : C Bool) : Prop := PTs X es (cB X.K X.mg W ios c)
theorem pts_imp {ifs : List Expr} {t t' : TT} (h : PTs X ifs t) (i : ∀ σ H Q, t' σ H Q → t σ H Q) : PTs X ifs t' := ⟨fun pins s σ H Q I q => h.run pins s σ H Q I (i σ H Q q)⟩
theorem jts_nil : JTs X W ios [] (ret true) := pts_imp pts_nil fun σ H Q ⟨F, own, ρ, hp, he, po⟩ => po own true H Good.refl he rfl
theorem jts_one {c : Expr} {ct : C Bool} (h : JT X W ios c ct) : JTs X W ios [c] ct := pts_one h
section
variable {elt iter : Expr} {ifs : List Expr} {scope : Scope} {own : List (Str × Nat)} {ci : C (List Dt)} {g : G} {ct : C Bool} {ce : C Dt} {tg' : TG}
theorem jf_lc (hc : X.calm = true) (hN : X.N.Nodup) (hi : JI X W ios tg iter ci) (ok : blkC X.N X.env.scope scope own = true) (hv : ∀ v ∈ own.map (·.2), v ∉ ios) (htg : TgOk X.K X.mg ios (own.map (·.2)) g tg')
    (hg : ∀ (s : Shared) (H : Hp) (C : Addr) (cl : List (Str × Addr)) (fp : List Addr), PG (X.blk s H scope (compEnvC scope cl C X.env) fp) tg tg')
    (ht : ∀ (s : Shared) (H : Hp) (C : Addr) (cl : List (Str × Addr)) (fp : List Addr), JTs (X.blk s H scope (compEnvC scope cl C X.env) fp) W0 ios ifs ct)
    (he : ∀ (s : Shared) (H : Hp) (C : Addr) (cl : List (Str × Addr)) (fp : List Addr), JE (X.blk s H scope (compEnvC scope cl C X.env) fp) W0 ios elt ce) (hs : ∀ x, foldedSetIterable iter X.env x = pure x := by intro _; rfl) :
    JF X W ios (.ListComp elt [⟨tg, iter, ifs, 0⟩] scope pos) (cLc (own.map (·.2)) ci g ct ce) :=
  pe_imp (pe_lc hc hN hi (blkOk_by ok) hg ht he hs) fun σ H Q h => lc_end hv htg h
theorem js_setLc {i : Nat} {y : Str} {py spos : Pos} (hc : X.calm = true) (hN : X.N.Nodup) (hy : X.N[i]? = some y) (hyl : X.env.scope.names.lookup y = some .local) (ho : i ∉ ios)
    (hsw : swapsWith (.ListComp elt [⟨tg, iter, ifs, 0⟩] scope pos) (some (.Name y py)) spos.line X.env = pure true) (hi : JI X W ios tg iter ci) (ok : blkC X.N X.env.scope scope own = true) (hv : ∀ v ∈ own.map (·.2), v ∉ ios) (htg : TgOk X.K X.mg ios (own.map (·.2)) g tg')
    (hg : ∀ (s : Shared) (H : Hp) (C : Addr) (cl : List (Str × Addr)) (fp : List Addr), PG (X.blk s H scope (compEnvC scope cl C X.env) fp) tg tg')
    (ht : ∀ (s : Shared) (H : Hp) (C : Addr) (cl : List (Str × Addr)) (fp : List Addr), JTs (X.blk s H scope (compEnvC scope cl C X.env) fp) W0 ios ifs ct)
    (he : ∀ (s : Shared) (H : Hp) (C : Addr) (cl : List (Str × Addr)) (fp : List Addr), JE (X.blk s H scope (compEnvC scope cl C X.env) fp) W0 ios elt ce) (hs : ∀ x, foldedSetIterable iter X.env x = pure x := by intro _; rfl) :
    JS X W ios (.Assign [.Name y py] (.ListComp elt [⟨tg, iter, ifs, 0⟩] scope pos) spos) (setF i (cLc (own.map (·.2)) ci g ct ce)) :=
  ps_imp (ps_setLc hc hN hy hyl hsw hi (blkOk_by ok) hg ht he hs) fun D σ H q => lc_end hv htg (setF_end ho q)
end
end
end DL
end
section
set_option Elab.async false
set_option linter.all false
set_option maxRecDepth 100000
set_option maxHeartbeats 4000000
/-! an own exception whose __init__ says super().__init__(a, b), then self.a = a and self.b = b -/
namespace DLX
namespace XI
open PySem PySem.W PySem.Calls PySem.Spec PyProof.Rows
inductive ArgT : List Str → List Expr → Prop
  | nil : ArgT [] []
  | cons {x : Str} {p : Pos} {ps : List Str} {es : List Expr} (d : (x == ("__debug__" : Str)) = false) (h : ArgT ps es) : ArgT (x :: ps) (.Name x p :: es)
inductive AsgT : List Str → List Stmt → Prop
  | nil : AsgT [] []
  | cons {f : Str} {a1 a2 a3 a4 : Pos} {ps : List Str} {as : List Stmt} (d : (f == ("__debug__" : Str)) = false) (h : AsgT ps as) : AsgT (f :: ps) (.Assign [.Attribute (.Name "self" a1) f a2] (.Name f a3) a4 :: as)
inductive MV (m : Str → Option Value) : List Str → List Value → Prop
  | nil : MV m [] []
  | cons {p : Str} {v : Value} {ps : List Str} {vs : List Value} (h : m p = some v) (r : MV m ps vs) : MV m (p :: ps) (v :: vs)
def putAll : List Str → List Value → (Str → Option Value) → Str → Option Value
  | p :: ps, v :: vs, m => putAll ps vs fun y => if y = p then some v else m y
  | _, _, m => m
section
variable {M : Model} {A : Around} {E : Value → Shared → Prop} {env : Env} {m : Str → Option Value}
theorem ldv {s : Shared} {x : Str} {pos : Pos} {v : Value} {Q : Value → Shared → Prop} (hn : s.heap.Ns env.locals m) (hv : m x = some v) (hk : env.scope.kind = .function) (hl : env.kindOf x = some .local) (hd : (x == ("__debug__" : Str)) = false) (h : Q v s) :
    wpAny M A (eval (.Name x pos) env) Q E s := wpAny_Name (wpAny_loadName_local hk hl hn hv h) hd
theorem args_ok {ps : List Str} {es : List Expr} {vs : List Value} {s : Shared} {pos : Pos} (hk : env.scope.kind = .function) (hn : s.heap.Ns env.locals m) (T : ArgT ps es) : ∀ {vs : List Value} {Q : List Value → Shared → Prop}, MV m ps vs → (∀ p ∈ ps, env.kindOf p = some .local) → Q vs s →
    wpAny M A (spliced (backTo pos (starEach es env))) Q E s := by
  induction T with
  | nil =>
    intro vs Q mv _ h
    cases mv
    exact spliced_nil h
  | cons d T ih =>
    intro vs Q mv hl h
    cases mv with
    | cons hv r =>
      show wpAny _ _ (spliced ((false, eval _ env) :: backTo pos (starEach _ env))) _ _ s
      refine spliced_cons (ldv hn hv hk (hl _ List.mem_cons_self) d ?_)
      exact ih r (fun p hp => hl p (List.mem_cons_of_mem _ hp)) h
end
section
variable {prog : Program} {w : World} {A : Around} {E : Value → Shared → Prop} {env : Env} {m : Str → Option Value} {K : Frag} {x C dx t1 : Addr}
abbrev exoD (C t1 : Addr) (d : Option Addr) : Obj := { cls := .ref C, dict := d, data := .fields #[.ref t1, .none, .none, .none, .bool false, .none] }
theorem cls_of (T : L2.OexC K C) : ∃ cd, clsIn K C = some cd ∧ PySem.HandSPX.refsVE cd.mro = true ∧ cd.hasDict = true := by
  obtain ⟨nm, q, N, bs, bm, sn, sub, ab, col, dd, k0, k1, k2, k3, k5, hC, hbm⟩ := T.cls
  exact ⟨{ name := nm, bases := bs, mro := .ref C :: bm, ns := N, qualname := q, hasDict := true, slotNames := sn, subclasses := sub, abstract := ab, collection := col, hasDel := false }, by unfold clsIn; rw [hC] <;> rfl, hbm, rfl⟩
theorem asg_old (T : L2.OexC K C) (hk : env.scope.kind = .function) (hself : m "self" = some (.ref x)) (hsl : env.kindOf "self" = some .local) {as : List Stmt} {ps : List Str} (TA : AsgT ps as) : ∀ {vs : List Value} {s : Shared} {Q : Flow → Shared → Prop} {m0 : Str → Option Value} {nl : List Str},
    K.In s.heap → K.lookup dx = none → s.heap.Ns env.locals m → env.locals ≠ dx → x ≠ dx → s.heap.get? x = some (exoD C t1 (some dx)) → s.heap.Ns1 dx m0 → Within m0 nl → nl.length + ps.length ≤ 1000 → MV m ps vs → (∀ p ∈ ps, env.kindOf p = some .local) → (∀ p ∈ ps, findIn K (.ref C) p = some none) →
    (∀ h' tk, (∀ b o, b ≠ dx → s.heap.get? b = some o → h'.get? b = some o) → h'.Ns1 dx (putAll ps vs m0) → Q .next { s with heap := h', toks := tk }) →
    wpAny (model prog w) A (execs as env) Q E s := by
  obtain ⟨cd, hcd, hm, hh⟩ := cls_of T
  induction TA with
  | nil =>
    intro vs s Q m0 nl X hdx hn neL neX hx hns hw hz mv hl hno hq
    cases mv
    exact wpAny_execs_nil (hq s.heap s.toks (fun _ _ _ e => e) hns)
  | @cons f a1 a2 a3 a4 ps as d TA ih =>
    intro vs s Q m0 nl X hdx hn neL neX hx hns hw hz mv hl hno hq
    cases mv with
    | cons hv r =>
      refine wpAny_execs_cons (plainObj_wpAny_Assign_Attribute ?_)
      refine ldv hn hv hk (hl _ List.mem_cons_self) d ?_
      refine ldv hn hself hk hsl (by decide) ?_
      obtain ⟨oD, _, _, hoD, _, _⟩ := hns.count hw
      refine set_plain X (ox := exoD C t1 (some dx)) (od := some oD) ⟨hx, rfl, rfl, hoD⟩ T.sa ?_
      obtain ⟨hp, g, d', t, os⟩ := s
      refine PySem.OEX.osa_old X hx hns hw (by simp only [List.length_cons] at hz; omega) hcd hm hh (hno _ List.mem_cons_self) (fun h' tk' k hn' => ?_)
      refine ih (s := ⟨h', g, d', tk', os⟩) (nl := f :: nl) (fun a o e => k a o (fun z => by rw [z, hdx] at e; cases e) (X a o e)) hdx (hn.at fun o q => k _ o neL q) neL neX (k _ _ neX hx) hn' (Within.cons f _ hw)
        (by simp only [List.length_cons] at hz ⊢; omega) r (fun p hp => hl p (List.mem_cons_of_mem _ hp)) (fun p hp => hno p (List.mem_cons_of_mem _ hp)) fun h2 tk2 k2 hn2 => ?_
      exact hq h2 tk2 (fun b o hb e => k2 b o hb (k b o hb e)) hn2
theorem plain_ok {ps : List Str} {es : List Expr} {pos : Pos} (T : ArgT ps es) : (backTo pos (starEach es env)).any (·.1) = false := by
  induction T with
  | nil => rfl
  | cons d T ih =>
    show (false || (backTo pos (starEach _ env)).any (·.1)) = false
    rw [ih]
    rfl
/-- what the written part says of the class, of its __init__ -/
structure XiC (P : Program) (K : Frag) (C fI : Addr) (ps : List Str) : Prop where
  T : L2.OexC K C
  iC : findIn K (.ref C) "__init__" = some (some (.ref fI))
  tI : typeIn K (.ref fI) = some (.type "function")
  noN : ∀ p ∈ ps, findIn K (.ref C) p = some none
  sup : ks_superIn K C C "__init__" = some (some (.builtin "ValueError.__init__"))
  op : nsIn K cStatics "thirdparty.any" = some none
  ve : subIn K (.ref C) (.type "ValueError") = some true
  self : mroIn K C (.ref C) = some true
  top : (P.main.scope.names.lookup ("super" : Str)).isSome = false
  fn : ∃ (oc : Value) (od : Option Addr) (qual : Str) (params : Arguments) (body : List Stmt) (scope : Scope) (dV kV doc pm : Value) (an : Option Addr) (cda : Addr) (ct : Value) (cc : Addr) (osl : Array (Option Value)) (p0 p1 p2 p3 p4 : Pos) (es : List Expr) (as : List Stmt)
    (ccl cl : Value) (cdd cld : Option Addr) (vs : Array Value) (ccs csl : Array (Option Value)) (file : Str) (tf : Tok) (ar : Arg),
    K.lookup fI = some ⟨oc, od, .func (ksFn "__init__" qual params body scope dV kV doc pm an (.ref cda) ct cc), osl⟩ ∧ codeIn K (.ref cda) qual = true ∧
    K.lookup cda = some ⟨ccl, cdd, .fields vs, ccs⟩ ∧ vs[2]? = some (.str file tf) ∧ ((P.main.file : Str) == file) = true ∧ K.lookup cc = some ⟨cl, cld, .cell (some (.ref C)), csl⟩ ∧
    body = .Expr (.Call (.Attribute (.Call (.Name "super" p0) [] [] p1) "__init__" p2) es [] p3) p4 :: as ∧ ArgT ps es ∧ es ≠ [] ∧ AsgT ps as ∧
    (params.posonlyargs ++ params.args).head? = some ar ∧ ar.arg = "self" ∧ (∀ (self : Value) (us : List Value), us.length = ps.length → bindArgs (ksFn "__init__" qual params body scope dV kV doc pm an (.ref cda) ct cc) ⟨self :: us, []⟩ = pure ((("self" : Str), self) :: ps.zip us)) ∧
    scope.kind = .function ∧ scope.isCoroutine = false ∧ scope.isGenerator = false ∧ (∀ y ∈ scope.names, y.2 ≠ .cell) ∧ scope.names.lookup ("self" : Str) = some .local ∧ (∀ p ∈ ps, scope.names.lookup p = some .local) ∧
    scope.names.lookup ("super" : Str) = some .globalImplicit ∧ scope.names.lookup ("__class__" : Str) = some .free ∧ (∀ env : Env, ∃ pl : Sem Bool, eval (.Call (.Attribute (.Call (.Name "super" p0) [] [] p1) "__init__" p2) es [] p3) env = (do
      let ov ← attributeBase (.Call (.Name "super" p0) [] [] p1) "__init__" env (eval (.Call (.Name "super" p0) [] [] p1) env)
      standAt p2.atName
      let (f, first) ← holding [ov] (getMethod ov "__init__" pl)
      callWith p3 f first (backTo p3 (starEach es env)) [])) ∧ ps.Nodup ∧ ("self" : Str) ∉ ps ∧ ps.length ≤ 900
theorem mv_of {ps : List Str} {vs : List Value} {m : Str → Option Value} (h : ∀ (i : Nat) (p : Str) (v : Value), ps[i]? = some p → vs[i]? = some v → m p = some v) (hl : vs.length = ps.length) : MV m ps vs := by
  induction ps generalizing vs with
  | nil =>
    cases vs with
    | nil => exact .nil
    | cons v r => simp at hl
  | cons p ps ih =>
    cases vs with
    | nil => simp at hl
    | cons v r => exact .cons (h 0 p v rfl rfl) (ih (fun i q u a b => h (i + 1) q u (by simpa using a) (by simpa using b)) (by simpa using hl))
theorem look_rev {l : List (Str × Value)} {p : Str} {v : Value} (nd : (l.map (·.1)).Nodup) (h : (p, v) ∈ l) : l.reverse.lookup p = some v := by
  have key : ∀ {l : List (Str × Value)}, (l.map (·.1)).Nodup → (p, v) ∈ l → l.lookup p = some v := by
    intro l
    induction l with
    | nil => intro _ h; cases h
    | cons q l ih =>
      intro nd h
      rw [List.lookup_cons]
      rcases List.mem_cons.mp h with h | h
      · subst h; simp
      · have nd' := List.nodup_cons.mp nd
        have : (p == q.1) = false := by
          rw [beq_eq_false_iff_ne]
          intro e
          exact nd'.1 (List.mem_map.mpr ⟨(p, v), h, e⟩)
        rw [this]
        exact ih nd'.2 h
  exact key (by rw [List.map_reverse]; unfold List.Nodup; rw [List.pairwise_reverse]; exact nd.imp fun h e => h e.symm) (List.mem_reverse.mpr h)
/-- super().__init__(..) called -/
theorem mw_call {s : Shared} {u : Addr} {rest : List Value} {Q : Value → Shared → Prop} (T : L2.OexC K C) (X : K.In s.heap) (hx : s.heap.get? x = some (exoD C t1 none)) (hu : s.heap.get? u = some (kxs_mw "ValueError.__init__" x)) (hz : rest.length ≤ sizeLine)
    (h : ∀ h' t2, (∀ b o, b ≠ x → s.heap.get? b = some o → h'.get? b = some o) → h'.get? x = some (exoD C t2 none) → Q .none { s with heap := h' }) : wpAny (model prog w) A (call (.ref u) rest) Q E s := by
  obtain ⟨nm, q, N, bs, bm, sn, sub, ab, col, dd, k0, k1, k2, k3, k5, hC, hbm⟩ := T.cls
  obtain ⟨hh, g, d, tk, os⟩ := s
  refine wpAny_call (codeAny_of_tree ?_)
  show wpAny _ A.in1 (callAny (.ref u) ⟨rest, []⟩) _ _ _
  simp only [callAny]
  refine wpAny_bind (wpAny_load hu ?_)
  simp only [kxs_mw, show (Value.type "method-wrapper" == Value.type "method" || Value.type "method-wrapper" == Value.type "builtin_function_or_method" || Value.type "method-wrapper" == Value.type "method-wrapper") = true by decide, if_true]
  refine KFB.if_so (by decide) ?_
  refine wpAny_bind (check_bound_init F.excBase_ValueError.toExcCallFacts (X _ _ hC) hx rfl ?_)
  refine wpAny_bind (wpAny_pure (wpAny_pure ?_))
  refine ⟨plainId_quiet F.excBase_ValueError.init.plain _, codeAny_builtin F.excBase_ValueError.initEntry ?_⟩
  exact exc_init_tree (cls := .ref C) (t0 := t1) (dv := none) (c2 := .none) (c3 := .none) (b4 := .bool false) hx hz fun h' k e1 _ => h h' _ k e1
theorem xinit_run {R : Result → Shared → Prop} {fI : Addr} {ps : List Str} {vs : List Value} {s : Shared} {mg mb : Str → Option Value} (F : XiC prog K C fI ps) (X : K.In s.heap) (lim : s.heap.NoLimit) (G : s.heap.Ns mainGlobals mg) (B : s.heap.Ns builtinsNs mb) (hsup : mg "super" = none)
    (hmb : mb "super" = some (.type "super")) (hx : s.heap.get? x = some (exoD C t1 none)) (hnx : K.lookup x = none) (hroom : A.depth < recursionLimit) (hv : vs.length = ps.length)
    (hq : ∀ h' tk dx t2, (∀ b o, b ≠ x → s.heap.get? b = some o → h'.get? b = some o) → h'.get? x = some (exoD C t2 (some dx)) → s.heap.objs.size ≤ dx → dx ≠ x → h'.Ns1 dx (putAll ps vs fun _ => none) → R (.ok (.ret .none)) { s with heap := h', toks := tk }) :
    codeAny (model prog w) A (.call (.ref fI) ⟨.ref x :: vs, []⟩) R s := by
  obtain ⟨oc, od, qual, params, body, scope, dV, kV, doc, pm, an, cda, ct, cc, osl, p0, p1, p2, p3, p4, es, as, ccl, cl, cdd, cld, cvs, ccs, csl, file, tf, ar, lk, hcd, lka, hvs, hfile, lkc, hbody, hes, hne, has, har, hself, hbind, hk, hco, hgen, hcell, hsl, hpl, hksup, hkcl, hform, nd, nself, hlen⟩ := F.fn
  obtain ⟨cd, hcdC, hm, hh⟩ := cls_of F.T
  have nd2 : (((("self" : Str), Value.ref x) :: ps.zip vs).map (·.1)).Nodup := by
    have e : (ps.zip vs).map (·.1) = ps := List.map_fst_zip (by omega)
    rw [List.map_cons, e]
    exact List.nodup_cons.mpr ⟨nself, nd⟩
  have mself : ((("self" : Str), Value.ref x) :: ps.zip vs).reverse.lookup ("self" : Str) = some (Value.ref x) := look_rev nd2 List.mem_cons_self
  have mvs : MV (fun y => ((("self" : Str), Value.ref x) :: ps.zip vs).reverse.lookup y) ps vs := mv_of (fun i p v h1 h2 => look_rev nd2 (List.mem_cons_of_mem _ (List.mem_of_getElem? (by rw [List.getElem?_zip_eq_some]; exact ⟨h1, h2⟩)))) hv
  have hxs : x ≠ s.heap.objs.size := Nat.ne_of_lt (Heap.lt_size hx)
  refine ks_codeAny_call_defAt (fd := ksFn "__init__" qual params body scope dV kV doc pm an (.ref cda) ct cc) (body := body) (binds := (("self" : Str), Value.ref x) :: ps.zip vs) hroom (X _ _ lk) rfl lim (codeRec_of X hcd) rfl (BindsTo.of_eq (hbind _ _ hv)) hcell (fun y hy => ?_) (fun h₁ hns k1 => ?_) hco hgen hk
  · rcases List.mem_cons.mp hy with e | hy
    · rw [e]; exact hsl
    · exact hpl _ (List.of_mem_zip hy).1
  rw [hbody]
  have X1 : K.In h₁ := X.keeps k1
  have hx1 := k1 _ _ hx
  have hC : ∃ oD, K.lookup C = some oD ∧ oD.data = .cls cd := by
    unfold clsIn at hcdC
    split at hcdC
    · rename_i c d cd' sl ho
      cases hcdC
      exact ⟨_, ho, rfl⟩
    · cases hcdC
  obtain ⟨oD, hC1, hC2⟩ := hC
  have xC : x ≠ C := fun e => by rw [e, hC1] at hnx; cases hnx
  have hcell' : scope.names.lookup ("self" : Str) = some .local := hsl
  have hes0 := hes
  obtain ⟨y, qy, es2, ees⟩ : ∃ y qy es2, es = .Name y qy :: es2 := by
    cases hes with
    | nil => exact absurd rfl hne
    | cons d T => exact ⟨_, _, _, rfl⟩
  subst ees
  obtain ⟨pl, hform⟩ := hform (ksEnv qual scope s.heap.objs.size fI (.ref cda) cc)
  have hint : interactive (ksEnv qual scope s.heap.objs.size fI (.ref cda) cc) = false := by
    unfold interactive
    simp [hk]
  refine ks_wpAt_execs_cons (ks_wpAt_Expr_any (hi := hint) (ks_wpAt_MethodCall (pl := pl) ?_ hform))
  refine ks_wpAt_super_base (env := ksEnv qual scope s.heap.objs.size fI (.ref cda) cc) hksup hkcl (by decide) rfl (X1 _ _ lk) rfl har rfl (X1 _ _ lka) rfl hvs hfile F.top ?_
  refine ks_loadName_global hk hksup (loadGlobal_builtin (env := ksEnv qual scope s.heap.objs.size fI (.ref cda) cc) (G.keeps k1) hsup (B.keeps k1) hmb ⟨rfl, ?_⟩)
  refine wpAny_loadName_free hk hkcl rfl ⟨_, X1 _ _ lkc, rfl⟩ ?_
  rw [hself]
  refine wpAny_loadName_local hk hcell' hns mself ?_
  refine ks_wpAny_isType_cls (X1 _ _ hC1) hC2 ⟨rfl, ?_⟩
  refine ks_wpAny_call_super (X1 _ _ hC1) hC2 hx1 rfl (fun c e => by cases e) (looks_mroIn X1 F.self) (fun h2 e2 k2 => ?_)
  have X2 : K.In h2 := X1.keeps k2
  have hx2 := k2 _ _ hx1
  have I2 : InstAt h2 x (exoD C t1 none) C none := ⟨hx2, rfl, rfl, trivial⟩
  have hsup2 := F.sup
  unfold ks_superIn at hsup2
  rw [hcdC] at hsup2
  refine kxs_getMethod kxs_ValueError e2 (looks_opaque X2 F.op) (l₀ := cd.mro) (fun A Q E s k q => wpAny_bind ((looks_clsIn X2 hcdC) A _ E s k (wpAny_pure q))) rfl X2 hsup2 (I2.type.andThen (looks_subIn X2 F.ve)) xC (by decide) ?_
  have k3 : ∀ b o, h2.get? b = some o → (h2.push (kxs_mw "ValueError.__init__" x)).get? b = some o := fun b o e => Heap.get?_push_of_some _ e
  have hu3 : (h2.push (kxs_mw "ValueError.__init__" x)).get? h2.objs.size = some (kxs_mw "ValueError.__init__" x) := Heap.get?_push_at rfl rfl
  have n3 : (h2.push (kxs_mw "ValueError.__init__" x)).Ns s.heap.objs.size (fun y => ((("self" : Str), Value.ref x) :: ps.zip vs).reverse.lookup y) := (hns.keeps k2).keeps k3
  have hp3 := plain_ok (env := ksEnv qual scope s.heap.objs.size fI (.ref cda) cc) (pos := p3) hes
  refine kxs_callWith (i := "ValueError.__init__") (x := x) hp3 ?_
  have hpl2 : ∀ p ∈ ps, (ksEnv qual scope s.heap.objs.size fI (.ref cda) cc).kindOf p = some .local := hpl
  have ha : ∀ {Q : List Value → Shared → Prop} {E : Value → Shared → Prop} {A : Around} {s3 : Shared}, s3.heap = h2.push (kxs_mw "ValueError.__init__" x) → Q vs s3 → wpAny (model prog w) A (spliced (backTo p3 (starEach (.Name y qy :: es2) (ksEnv qual scope s.heap.objs.size fI (.ref cda) cc)))) Q E s3 := fun {Q E A s3} e h =>
    args_ok (vs := vs) (s := s3) hk (by rw [e]; exact n3) hes mvs hpl2 h
  have hev : ∀ {Q : Args → Shared → Prop} {E : Value → Shared → Prop} {A : Around} {s3 : Shared} {f : Value}, s3.heap = h2.push (kxs_mw "ValueError.__init__" x) → Q ⟨vs, []⟩ s3 → wpAny (model prog w) A (evalArgs f true (backTo p3 (starEach (.Name y qy :: es2) (ksEnv qual scope s.heap.objs.size fI (.ref cda) cc))) []) Q E s3 := fun {Q E A s3 f} e h => by
    cases hes with
    | cons d T => exact evalArgs_plain (ha (E := E) (Q := fun vs s' => Q ⟨vs, []⟩ s') e h)
  refine hev rfl ⟨hu3, ?_⟩
  have hlz : vs.length ≤ sizeLine := by rw [sizeLine_eq]; omega
  refine mw_call (t1 := t1) F.T (X2.keeps k3) (k3 _ _ hx2) hu3 hlz fun h4 t4 k4 hx4 => ?_
  refine wpAt_of_wpAny ?_
  have X4 : K.In h4 := fun a o e => k4 a o (fun z => by rw [z, hnx] at e; cases e) (k3 _ _ (X2 a o e))
  have n4 : h4.Ns s.heap.objs.size (fun y => ((("self" : Str), Value.ref x) :: ps.zip vs).reverse.lookup y) := n3.at fun o q => k4 _ o (Ne.symm hxs) q
  have kk : ∀ b o, b ≠ x → s.heap.get? b = some o → h4.get? b = some o := fun b o hb e => k4 b o hb (k3 _ _ (k2 _ _ (k1 _ _ e)))
  cases has with
  | nil => cases hes
  | @cons f a1 a2 a3 a4 ps2 as2 d TA =>
    cases mvs with
    | @cons _ v _ vs2 hv1 r =>
      refine wpAny_execs_cons (plainObj_wpAny_Assign_Attribute ?_)
      refine ldv (env := ksEnv qual scope s.heap.objs.size fI (.ref cda) cc) n4 hv1 hk (hpl2 _ List.mem_cons_self) d ?_
      refine ldv (env := ksEnv qual scope s.heap.objs.size fI (.ref cda) cc) n4 mself hk hsl (by decide) ?_
      refine set_plain X4 (ox := exoD C t4 none) (od := none) ⟨hx4, rfl, rfl, trivial⟩ F.T.sa ?_
      refine PySem.HandSPX.exc_osa X4 hx4 hcdC hm hh (F.noN _ List.mem_cons_self) (fun h5 tk5 dx k5 dn dne hx5 hn5 => ?_)
      have dn : h4.objs.size ≤ dx := dn
      have sz : s.heap.objs.size ≤ h4.objs.size := by
        obtain ⟨oL, _, _, hL, _⟩ := n4
        exact Nat.le_of_lt (Heap.lt_size hL)
      have Ldx : s.heap.objs.size ≠ dx := by
        obtain ⟨oL, _, _, hL, _⟩ := n4
        exact Nat.ne_of_lt (Nat.lt_of_lt_of_le (Heap.lt_size hL) dn)
      have ndx : K.lookup dx = none := by
        cases e : K.lookup dx with
        | none => rfl
        | some o =>
          have z := X4 _ _ e
          exact absurd (Nat.lt_of_lt_of_le (Heap.lt_size z) dn) (Nat.lt_irrefl _)
      refine asg_old (C := C) (x := x) (dx := dx) (t1 := t4) (m := fun y => ((("self" : Str), Value.ref x) :: (f :: ps2).zip (v :: vs2)).reverse.lookup y) (env := ksEnv qual scope s.heap.objs.size fI (.ref cda) cc) F.T hk mself hsl TA (vs := vs2) (nl := [f]) (fun a o e => k5 a o (fun z => by rw [z, hnx] at e; cases e) (X4 a o e)) ndx
        (n4.at fun o q => k5 _ o (Ne.symm hxs) q) Ldx (Ne.symm dne) hx5 hn5 (Within.cons f _ Within.nil) (by simp only [List.length_cons, List.length_nil] at hlen ⊢; omega) r (fun p hp => hpl2 p (List.mem_cons_of_mem _ hp)) (fun p hp => F.noN p (List.mem_cons_of_mem _ hp)) fun h6 tk6 k6 hn6 => ?_
      exact hq h6 tk6 dx t4 (fun b o hb e => k6 b o (fun z => by
          have q := Nat.lt_of_lt_of_le (Heap.lt_size e) (Nat.le_trans sz dn)
          rw [z] at q
          exact absurd q (Nat.lt_irrefl _)) (k5 b o hb (kk b o hb e))) (k6 _ _ (Ne.symm dne) hx5) (Nat.le_trans sz dn) dne hn6
end
end XI
end DLX
end
section
set_option Elab.async false
set_option linter.all false
set_option maxRecDepth 100000
set_option maxHeartbeats 4000000
/-! such an exception made, and one without an __init__ made of nothing -/
namespace DLX
namespace XI
open PySem PySem.W PySem.Calls PySem.Spec PyProof.Rows L2
def fsPut : List Str → List V → List (Str × V) → List (Str × V)
  | p :: ps, v :: vs, acc => fsPut ps vs ((p, v) :: acc)
  | _, _, acc => acc
theorem relO_putAll : ∀ {ps : List Str} {vs : List V} {us : List Value} {acc : List (Str × V)} {m : Str → Option Value}, Vals vs us → (∀ g, RelO (acc.lookup g) (m g)) → ∀ g, RelO ((fsPut ps vs acc).lookup g) (putAll ps us m g)
  | [], _, _, _, _, _, h => by intro g; unfold fsPut putAll; exact h g
  | p :: ps, [], _, _, _, r, h => by cases r; intro g; unfold fsPut putAll; exact h g
  | p :: ps, v :: vs, _, acc, m, r, h => by
    cases r with
    | cons rv rr =>
      intro g
      show RelO ((fsPut ps vs ((p, v) :: acc)).lookup g) _
      exact relO_putAll rr (relO_put rv h) g
section
variable {prog : Program} {w : World} {A : Around} {K : Frag} {C fI : Addr} {ps : List Str} {s : Shared} {R : Result → Shared → Prop}
structure XMade (h h' : Heap) (e C d : Addr) (ps : List Str) (us : List Value) : Prop where
  keep : ∀ b o, h.get? b = some o → h'.get? b = some o
  new : h.objs.size ≤ e
  obj : ∃ t, h'.get? e = some (exoD C t (some d))
  dbig : h.objs.size ≤ d
  dne : d ≠ e
  ns : h'.Ns1 d (putAll ps us fun _ => none)
theorem xmade {us : List Value} {mg mb : Str → Option Value} (F : XiC prog K C fI ps) (X : K.In s.heap) (hlim : s.heap.NoLimit) (G : s.heap.Ns mainGlobals mg) (B : s.heap.Ns builtinsNs mb) (hsup : mg "super" = none) (hmb : mb "super" = some (.type "super")) (hroom : A.depth + 1 < recursionLimit) (hl : us.length = ps.length) (hz : us.length ≤ sizeLine)
    (hq : ∀ h' tk e d, XMade s.heap h' e C d ps us → R (.ok (.ret (.ref e))) { s with heap := h', toks := tk }) : codeAny (model prog w) A (.call (.ref C) ⟨us, []⟩) R s := by
  obtain ⟨nm, q, N, bs, bm, sn, sub, ab, col, dd, k0, k1, k2, k3, k5, hC, hbm⟩ := F.T.cls
  obtain ⟨hp, g, dr, tk, os⟩ := s
  let hp2 := (hp.push (kdv_tup us)).push (PySem.HandSPX.excO C hp.objs.size)
  have k : ∀ b o, hp.get? b = some o → hp2.get? b = some o := fun b o e => Heap.get?_push_of_some _ (Heap.get?_push_of_some _ e)
  have hget : hp2.get? (hp.objs.size + 1) = some (PySem.HandSPX.excO C hp.objs.size) := by heap_get
  have hnx : K.lookup (hp.objs.size + 1) = none := by
    cases e : K.lookup (hp.objs.size + 1) with
    | none => rfl
    | some o => exact absurd (Nat.lt_of_succ_lt (Heap.lt_size (X _ _ e))) (Nat.lt_irrefl _)
  refine PySem.HandSPX.call_own PySem.F.excBase_ValueError (fun Y => PySem.HandSPX.refsVE_contains Y bm hbm) (X _ _ hC) (looks_findIn X F.iC) (fun self => bind_fn X self F.tI) hz ?_
  refine xinit_run (s := ⟨hp2, g, dr, tk, os⟩) F (X.keeps k) (hlim.keeps k) (G.keeps k) (B.keeps k) hsup hmb hget hnx ?_ hl fun h' tk' dx t2 k' hx dn dne hns => ?_
  · show A.depth + 1 < recursionLimit
    exact hroom
  · have z : hp.objs.size + 1 + 1 ≤ dx := by
      have q := dn
      first
        | (simpa only [Heap.size_push] using q)
        | exact q
        | (have q2 : ((hp.push (kdv_tup us)).push (PySem.HandSPX.excO C hp.objs.size)).objs.size ≤ dx := q; rw [Heap.size_push, Heap.size_push] at q2; exact q2)
    exact ⟨rfl, hq h' tk' (hp.objs.size + 1) dx ⟨fun b o e => k' b o (Nat.ne_of_lt (Nat.lt_succ_of_lt (Heap.lt_size e))) (k b o e), Nat.le_succ _, ⟨_, hx⟩, Nat.le_trans (Nat.le_trans (Nat.le_succ _) (Nat.le_succ _)) z, dne, hns⟩⟩
end
section
variable {X : Cx} {C fI : Addr} {ps : List Str} {x : Str} {e : Expr} {es : List Expr} {ta : TA} {p pos : Pos}
theorem boot_super : bootBuiltins "super" = some (.type "super") := by first | boot_by_name | rfl | kernel_rfl
def tMkX (C : Addr) (ps : List Str) (ta : TA) : L2.St → Hp → XK → Prop := fun σ H Q => ta σ H fun vs H1 => vs.length = ps.length ∧ ∀ d, H1 d = none → Q (.ref C) (some d) (upd H1 d (.xd (fsPut ps vs [])))
theorem pmk_xi {k : Nat} (F : XiC X.prog X.K C fI ps) (hm : X.mg x = some (.ref C)) (hsup : X.mg "super" = none) (hz : ps.length ≤ 900) (hr : Room (k + 1) X.A) (ha : PA X (e :: es) ta) (hg : Gl X x := by rfl) (hdb : (x == ("__debug__" : Str)) = false := by decide)
    (he : starEach (e :: es) X.env = (false, eval e X.env) :: starEach es X.env := by rfl) (hpl : (backTo pos (starEach es X.env)).any (·.1) = false := by rfl) : PMk X (.Call (.Name x p) (e :: es) [] pos) (tMkX C ps ta) := by
  intro pins s σ H Q I h
  refine wpAny_Call_Name_kw (ld_glob I hg hm ?_ hdb)
  refine callWith_K (h₀ := X.base) I.ok.mod.kin F.T.kC (thn (ha.run pos pins s σ H _ I h) fun us s1 ⟨vs, H1, I1, r1, hl, q1⟩ => ⟨I1.kIn, ?_⟩) he hpl
  show wpAny _ _ (call (.ref C) us) _ _ _
  have hlu : us.length = ps.length := by rw [← Paired.length r1]; exact hl
  have hlim := I1.nolimit
  obtain ⟨mb, hb1, hb2⟩ := I1.mod.blt
  have hB := hb1.keeps I1.bk
  have hG := I1.mod.glob.keeps I1.bk
  obtain ⟨hp, g, dr, tk, os⟩ := s1
  refine wpAny_call (xmade F I1.kIn hlim hG hB hsup ((hb2 _ (by decide)).trans boot_super) (by have := hr.dp; omega) hlu (by rw [sizeLine_eq]; omega) fun h' tk' e d M => ?_)
  show MkP X pins σ Q (.ref e) ⟨h', g, dr, tk', os⟩
  obtain ⟨t, hoe⟩ := M.obj
  have hns := M.ns
  obtain ⟨G', g1, g2⟩ := restrict h' fun b => decide (b ≠ e)
  have gk : ∀ b, b ≠ e → G'.get? b = h'.get? b := fun b hb => g1 b (decide_eq_true hb)
  have ge : G'.get? e = none := g2 e (by simp)
  have old : ∀ b o, hp.get? b = some o → G'.get? b = some o := fun b o q => (gk b (Nat.ne_of_lt (Nat.lt_of_lt_of_le (Heap.lt_size q) M.new))).trans (M.keep b o q)
  have ob : ObjOk X.prog X.w (upd H1 d (.xd (fsPut ps vs []))) G' d (.xd (fsPut ps vs [])) := ⟨_, hns.at (fun o q => (gk d M.dne).trans q), fun f => relO_putAll (ps := ps) (acc := []) (m := fun _ => none) r1 (fun _ => True.intro) f⟩
  have J : Inv X pins σ (upd H1 d (.xd (fsPut ps vs []))) ⟨G', g, dr, tk', os⟩ := I1.laid (t' := tk') old M.dbig ob
  refine ⟨e, _, _, ⟨G', g, dr, tk', os⟩, _, .ref C, some d, rfl, J, fun b o q => ?_, ge, hoe, ⟨rfl, rfl⟩, rfl, rfl, ?_, rfl, I1.bare, raises_own F.T.exC F.T.tyC, q1 d (I1.hok.fresh M.dbig)⟩
  · by_cases hb : b = e
    · have q' : G'.get? b = some o := q
      rw [hb, ge] at q'; cases q'
    · exact (gk b hb).symm.trans q
  · rw [upd_ne (Ne.symm M.dne)]
    exact I1.hok.fresh M.new
/-- x(), without an own __init__ -/
theorem pmk_own0 {bmB : List Value} {B newId initId : String} (F : ExcBaseFacts B newId initId bmB) (q : excIn X.K C bmB newId = true) (gC : X.mg x = some (.ref C)) (kC : keepIn X.K (.ref C) = true) (r : Raises X (.ref C)) (hg : Gl X x := by rfl) (hdb : (x == ("__debug__" : Str)) = false := by decide) :
    PMk X (.Call (.Name x p) [] [] pos) (fun _ H Q => Q (.ref C) none H) := by
  intro pins s σ H Q I h
  refine wpAny_Call_Name_kw (ld_glob I hg gC ?_ hdb)
  refine callWith_K0 I.kIn kC ?_
  show wpAny _ _ (call (.ref C) []) _ _ _
  obtain ⟨bm, N, nm, qn, bs, hdct, sn, sub, ab, col, dd, k0, k1, k2, k3, k5, mN, hC, hN, hni, T⟩ := exc_obj I.kIn q
  exact wpAny_call_exc_subT F T hC hN hni (fun h' e hm => mk_of I hm r h (I.hok.gone hm.new)) (Nat.zero_le _)
end
end XI
end DLX
end
section
set_option Elab.async false
set_option linter.all false
set_option maxRecDepth 100000
set_option maxHeartbeats 4000000
/-! a try with named and unnamed clauses -/
namespace DLX
open PySem PySem.Spec PyProof.Rows L2
abbrev HdT : Type := Value × Option Nat × (Addr → Value → Option Addr → TS)
def endAt (D : Ends) (i : Nat) : Ends := { nx := fun σ' H' => D.nx (σ'.set i none) H', rt := D.rt, bk := fun σ' H' => D.bk (σ'.set i none) H', ct := fun σ' H' => D.ct (σ'.set i none) H' }
def wMix (K : PySem.W.Frag) (Wout : WX) (D : Ends) : List HdT → WX
  | [] => Wout
  | (c, none, ts) :: r => fun cls d σ H => ∃ b, PySem.W.exmOne K cls c = some b ∧ (b = true → ∀ a, H a = none → ts a cls d D σ H) ∧ (b = false → wMix K Wout D r cls d σ H)
  | (c, some i, ts) :: r => fun cls d σ H => ∃ b, PySem.W.exmOne K cls c = some b ∧ (b = true → ∀ a, H a = none → ts a cls d (endAt D i) (σ.set i (some (.ref a))) H) ∧ (b = false → wMix K Wout D r cls d σ H)
abbrev SuT (X : Cx) (st : List Stmt) (ts : Addr → Value → Option Addr → TS) : Prop := ∀ (a : Addr) (oe : Obj) (cls : Value) (d : Option Addr) (pn : List (Addr × Obj)), Zc cls d oe → (∃ vs, oe.data = .fields vs) → PSs (X.suite a ((a, oe) :: pn)) st (ts a cls d)
inductive HMix (X : Cx) : List ExceptHandler → List HdT → Prop
  | nil : HMix X [] []
  | anon {x : Str} {c : Value} {ts : Addr → Value → Option Addr → TS} {b₀ : Stmt} {suite : List Stmt} {np pos' : Pos} {hds : List ExceptHandler} {l : List HdT} (hc : Names X x c) (hsu : SuT X (b₀ :: suite) ts) (r : HMix X hds l) :
      HMix X (.ExceptHandler (some (.Name x np)) none (b₀ :: suite) pos' :: hds) ((c, none, ts) :: l)
  | named {x n : Str} {i : Nat} {c : Value} {ts : Addr → Value → Option Addr → TS} {b₀ : Stmt} {suite : List Stmt} {np pos' : Pos} {hds : List ExceptHandler} {l : List HdT} (hc : Names X x c) (hi : X.N[i]? = some n) (hln : X.env.kindOf n = some .local) (hsu : SuT X (b₀ :: suite) ts) (r : HMix X hds l) :
      HMix X (.ExceptHandler (some (.Name x np)) (some n) (b₀ :: suite) pos' :: hds) ((c, some i, ts) :: l)
section
variable {X : Cx} {body : List Stmt} {h₀ : ExceptHandler} {hds : List ExceptHandler} {l : List HdT} {pos : Pos} {tb : WX → TS} {Wout : WX}
theorem ps_try_mix (hN : X.N.Nodup) (hs : X.stack = X.env :: X.outer) (hf : X.env.frame = some X.env.locals) (tk : Takes X Wout)
    (hb : ∀ (W : WX) (pn : List (Addr × Obj)) (xe : Value → Shared → Prop), Takes (X.tr pn xe) W → PassesOwn (model X.prog X.w) X.A X.env xe → PSs (X.tr pn xe) body (tb W))
    (hh : HMix X (h₀ :: hds) l) : PS X (.Try body (h₀ :: hds) [] [] pos) (fun D σ H => tb (wMix X.K Wout D l) D σ H) := by
  refine ⟨fun pins s σ H D I h => ?_⟩
  have ok := I.ok
  have hst : X.A.frames = some (X.env :: X.outer) := by rw [ok.frames, hs]
  refine wpAny_Try_except ?_
  refine wpAny_mono ((hb (wMix X.K Wout D l) (X.pn ++ pins) (fun e s₁ => wpAny (model X.prog X.w) X.A (noteFrame e X.env) (fun _ s₂ => wpAny (model X.prog X.w) X.A (setFlight e none) (fun _ s₃ =>
    wpAny (model X.prog X.w) X.A (handleBy e X.env (h₀ :: hds)) (SP X pins D) X.xe s₃) X.xe s₂) X.xe s₁) (fun u s' xx => ?_) PassesOwn.looking).run [] s σ H D (I.toTry _) h) (fun f s1 hr => ?_) (fun e s1 he => he)
  · -- the catch
    obtain ⟨a, B, sJ, qins, σ', H', cls, d, rfl, I', nb, up, sky, na, os, ag, w⟩ := xx
    have J : Inv X pins σ' H' sJ := I'.ofTry ok
    have sk : Sky B (X.env :: X.outer) a (Zc cls d) X.env.locals s'.heap := by rw [← hs]; exact sky
    show wpAny (model X.prog X.w) X.A (noteFrame (.ref a) X.env) _ _ _
    refine Sky.land Zc.steady hst hf sk fun hq3 fq uq => ?_
    have I3 : Inv X pins σ' H' { s' with heap := hq3 } := J.landed nb fq.1 (up.trans uq) os ag
    obtain ⟨ox, vx, hx, zx, dx3⟩ := fq.there
    have notF : ∀ {h : Heap} {o : Obj} {vs : Array Value}, h.FunFrames B (X.env :: X.outer) → h.get? a = some o → o.data = .fields vs → a ∉ frs (X.env :: X.outer) := fun {h o vs} ff e dd hm => by
      obtain ⟨_, o', e', hnf⟩ := ff.mem hm
      rw [e] at e'; cases e'
      exact hnf _ dd
    have nst := notF fq.2.2.1 hx dx3
    have nM : a ≠ X.env.locals := fun z => nst (List.mem_filterMap.mpr ⟨X.env, List.mem_cons_self, by rw [hf, z]⟩)
    have nG : a ∉ X.fs := fun hm => by
      obtain ⟨e, he, q⟩ := List.mem_filterMap.mp hm
      exact nst (List.mem_filterMap.mpr ⟨e, List.mem_cons_of_mem _ he, q⟩)
    have T3 := I3.suite hx dx3 na nM nG
    have go : ∀ {hds' : List ExceptHandler} {l' : List HdT}, HMix X hds' l' → wMix X.K Wout D l' cls d σ' H' →
        wpAny (model X.prog X.w) X.A (handleBy (.ref a) X.env hds') (SP X pins D) X.xe { s' with heap := hq3 } := by
      intro hds' l' hk
      induction hk with
      | nil =>
        intro w
        refine wpAny_handleBy_nil ?_
        obtain ⟨k1, k2, k3, oe, vs, T, oT, ts', he, hz, hd, h1, hr⟩ := id fq
        unfold PySem.passOn
        refine wpAny_bind (wpAny_field he hd h1 ?_)
        rw [if_neg (show ¬ ((Value.ref T == Value.none) = true) from by simp)]
        have fin : wpAny (model X.prog X.w) X.A (setFlight (.ref a) X.env.frame) (fun _ s4 => wpAny (model X.prog X.w) X.A (throw (.ref a) : Sem Flow) (SP X pins D) X.xe s4) X.xe { s' with heap := hq3 } := by
          rw [hf]
          refine HandSPX.setFlight_upZ fq fun hq4 hh4 uy => wpAny_throw (tk _ _ ?_)
          exact ⟨a, B, sJ, pins, σ', H', cls, d, rfl, J, nb, (up.trans uq).trans uy, .inr (.inr (by rw [hs]; exact hh4)), na, os, ag, w⟩
        first
          | exact wpAny_bind (wpAny_pure (wpAny_bind fin))
          | exact wpAny_bind fin
      | @anon x c ts b₀ suite np pos' hds2 l2 hc hsu r ih =>
        intro w
        obtain ⟨b, hb1, yes, nay⟩ := w
        refine wpAny_handleBy_cons (codeAny_handlers_test ?_) (by intro q; cases q)
        have Lt : PySem.W.Looks (model X.prog X.w) hq3 (typeOf (.ref a)) cls := fun A Q E s k q => wpAny_typeOf_ref (k _ _ hx) (by rw [zx.1]; exact q)
        have Lm := PySem.W.exm_one (M := model X.prog X.w) (I3.kIn) Lt hb1
        have test : ∀ {Q : Value → Shared → Prop} {E : Value → Shared → Prop}, Q c { s' with heap := hq3 } → wpAny (model X.prog X.w) (X.A.mark (some (.ref a))) (eval (.Name x np) X.env) Q E { s' with heap := hq3 } := fun {Q E} q => by
          obtain ⟨hg, hdbg, hm | ⟨hm, hv, hnn⟩⟩ := hc
          · exact ld_glob (X := X.suite a ((a, ox) :: (X.pn ++ pins))) T3 hg hm q hdbg
          · exact ld_blt (X := X.suite a ((a, ox) :: (X.pn ++ pins))) T3 hg hm hv q hnn hdbg
        refine test (Lm.here ?_)
        cases b with
        | true =>
          refine codeAny_handlers_suite ?_
          refine HandSPX.lands_againZ fq fun hq4 fy uy => ?_
          have I4 : Inv X pins σ' H' { s' with heap := hq4 } := J.landed nb fy.1 ((up.trans uq).trans uy) os ag
          obtain ⟨oy, vy, hy, zy, dy⟩ := fy.there
          have T4 := I4.suite hy dy na nM nG
          refine wpAny_mono ((hsu a oy cls d (X.pn ++ pins) zy ⟨_, dy⟩).run [] _ _ H' _ T4 (yes rfl a na)) (fun f t6 hr => ?_) (fun _ _ z => False.elim z)
          cases f with
          | next =>
            obtain ⟨τ, G6, T6, z6⟩ := hr
            exact ⟨_, _, T6.unsuite ok, z6⟩
          | brk =>
            obtain ⟨τ, G6, T6, z6⟩ := hr
            exact ⟨_, _, T6.unsuite ok, z6⟩
          | cont =>
            obtain ⟨τ, G6, T6, z6⟩ := hr
            exact ⟨_, _, T6.unsuite ok, z6⟩
          | ret u =>
            obtain ⟨v6, τ, G6, T6, rv, z6⟩ := hr
            exact ⟨_, _, _, T6.unsuite ok, rv, z6⟩
        | false =>
          show wpAny _ X.A (handleBy (.ref a) X.env hds2) _ _ _
          exact ih (nay rfl)
      | @named x n i c ts b₀ suite np pos' hds2 l2 hc hi hln hsu r ih =>
        intro w
        obtain ⟨b, hb1, yes, nay⟩ := w
        refine wpAny_handleBy_cons (codeAny_handlers_test ?_) (by intro q; cases q)
        have Lt : PySem.W.Looks (model X.prog X.w) hq3 (typeOf (.ref a)) cls := fun A Q E s k q => wpAny_typeOf_ref (k _ _ hx) (by rw [zx.1]; exact q)
        have Lm := PySem.W.exm_one (M := model X.prog X.w) (I3.kIn) Lt hb1
        have test : ∀ {Q : Value → Shared → Prop} {E : Value → Shared → Prop}, Q c { s' with heap := hq3 } → wpAny (model X.prog X.w) (X.A.mark (some (.ref a))) (eval (.Name x np) X.env) Q E { s' with heap := hq3 } := fun {Q E} q => by
          obtain ⟨hg, hdbg, hm | ⟨hm, hv, hnn⟩⟩ := hc
          · exact ld_glob (X := X.suite a ((a, ox) :: (X.pn ++ pins))) T3 hg hm q hdbg
          · exact ld_blt (X := X.suite a ((a, ox) :: (X.pn ++ pins))) T3 hg hm hv q hnn hdbg
        refine test (Lm.here ?_)
        cases b with
        | true =>
          refine codeAny_handlers_suite_as ?_
          refine HandSPX.lands_againZ fq fun hq4 fy uy => ?_
          have I4 : Inv X pins σ' H' { s' with heap := hq4 } := J.landed nb fy.1 ((up.trans uq).trans uy) os ag
          obtain ⟨oy, vy, hy, zy, dy⟩ := fy.there
          have T4 := I4.suite hy dy na nM nG
          refine store_ok (X := X.suite a ((a, oy) :: (X.pn ++ pins))) (v := .ref a) T4 hN hi (.inl hln) rfl (fun t5 T5 => ?_) (.inr hln)
          refine wpAny_mono ((hsu a oy cls d (X.pn ++ pins) zy ⟨_, dy⟩).run [] t5 _ H' _ T5 (yes rfl a na)) (fun f t6 hr => ?_) (fun _ _ z => False.elim z)
          have end_ : ∀ {τ : L2.St} {G6 : Hp} {Q : Shared → Prop}, Inv (X.suite a ((a, oy) :: (X.pn ++ pins))) [] τ G6 t6 → (∀ t7, Inv X pins (τ.set i none) G6 t7 → Q t7) →
              wpAny (model X.prog X.w) X.A (do bindName X.env n .none; unbindBehindTheSuite X.env n pos') (fun _ t7 => Q t7) X.xe t6 := fun {τ G6 Q} T6 hq => gone_ok (T6.unsuite ok) hN hi hln hq
          cases f with
          | next =>
            obtain ⟨τ, G6, T6, z6⟩ := hr
            exact end_ T6 fun t7 I7 => ⟨_, _, I7, z6⟩
          | brk =>
            obtain ⟨τ, G6, T6, z6⟩ := hr
            exact end_ T6 fun t7 I7 => ⟨_, _, I7, z6⟩
          | cont =>
            obtain ⟨τ, G6, T6, z6⟩ := hr
            exact end_ T6 fun t7 I7 => ⟨_, _, I7, z6⟩
          | ret u =>
            obtain ⟨v6, τ, G6, T6, rv, z6⟩ := hr
            exact end_ T6 fun t7 I7 => ⟨_, _, _, I7, rv, z6⟩
        | false =>
          show wpAny _ X.A (handleBy (.ref a) X.env hds2) _ _ _
          exact ih (nay rfl)
    exact go hh w
  · cases f with
    | next =>
      obtain ⟨σ', H', I', q⟩ := hr
      exact wpAny_execs_nil ⟨σ', H', I'.ofTry ok, q⟩
    | brk =>
      obtain ⟨σ', H', I', q⟩ := hr
      exact ⟨σ', H', I'.ofTry ok, q⟩
    | cont =>
      obtain ⟨σ', H', I', q⟩ := hr
      exact ⟨σ', H', I'.ofTry ok, q⟩
    | ret u =>
      obtain ⟨v, σ', H', I', r, q⟩ := hr
      exact ⟨v, σ', H', I'.ofTry ok, r, q⟩
end
end DLX
end
section
set_option Elab.async false
set_option linter.all false
set_option maxRecDepth 100000
set_option maxHeartbeats 4000000
namespace DL
open PySem PySem.Spec PyProof.Rows L2
/-! ## exceptions made -/
structure Xk (P : Program) (K : PySem.W.Frag) (mg : Str → Option Value) (x : Str) (ps : List Str) : Prop where
  ex : ∃ C fI, DLX.XI.XiC P K C fI ps ∧ mg x = some (.ref C) ∧ mg "super" = none ∧ ps.length ≤ 900
structure Xn (K : PySem.W.Frag) (mg : Str → Option Value) (x : Str) : Prop where
  ex : ∃ C, PySem.W.excIn K C He.veBase "ValueError.__new__" = true ∧ mg x = some (.ref C) ∧ PySem.W.keepIn K (.ref C) = true ∧ PySem.W.subIn K (.ref C) (.type "BaseException") = some true ∧ PySem.W.typeIn K (.ref C) = some (.type "type")
section
variable {X : Cx} {W : WX} {ios : List Nat} {e a b : Expr} {es : List Expr} {pos p pos' : Pos} {st : Stmt} {sts : List Stmt} {K : PySem.W.Frag} {mg : Str → Option Value}
theorem look_put {α : Type} (f g : Str) (y : α) (fs : List (Str × α)) : ((f, y) :: fs).lookup g = if g = f then some y else fs.lookup g := by
  rw [List.lookup_cons]
  by_cases h : g = f
  · rw [if_pos h, h]; simp
  · rw [if_neg h, beq_eq_false_iff_ne.mpr h]
def fsD : List Str → List Dt → List (Str × Dt) → List (Str × Dt)
  | p :: ps, v :: vs, acc => fsD ps vs ((p, v) :: acc)
  | _, _, acc => acc
theorem fsD_look {own : Own} {H : Hp} {f : Str} {y : Dt} : ∀ {ps : List Str} {ds : List Dt} {vs : List V} {acc : List (Str × Dt)} {acc' : List (Str × V)}, RepL K mg own H ds vs → (∀ y, acc.lookup f = some y → ∃ x, acc'.lookup f = some x ∧ RepD K mg own H y x) →
    (fsD ps ds acc).lookup f = some y → ∃ x, (DLX.XI.fsPut ps vs acc').lookup f = some x ∧ RepD K mg own H y x
  | [], _, _, _, _, _, h, e => by unfold fsD at e; unfold DLX.XI.fsPut; exact h y e
  | p :: ps, [], _, _, _, r, h, e => by
    simp only [RepL] at r
    subst r
    unfold fsD at e; unfold DLX.XI.fsPut; exact h y e
  | p :: ps, d :: ds, _, acc, acc', r, h, e => by
    simp only [RepL] at r
    obtain ⟨x, q, e1, r1, r2⟩ := r
    subst e1
    unfold fsD at e
    unfold DLX.XI.fsPut
    refine fsD_look r2 (fun y hy => ?_) e
    rw [look_put] at hy ⊢
    by_cases hf : f = p
    · rw [if_pos hf] at hy ⊢
      cases hy
      exact ⟨x, rfl, r1⟩
    · rw [if_neg hf] at hy ⊢
      exact h y hy
def raiseS (x : Str) (ps : List Str) (c : C (List Dt)) : S := bindS c fun ds ρ => if ds.length = ps.length then .exc (x, fsD ps ds []) ρ else .stuck
theorem js_raise {x : Str} {ps : List Str} {c : C (List Dt)} {k : Nat} (T : Xk X.prog X.K X.mg x ps) (hc : X.calm = true) (tk : Takes X W) (hr : Room (k + 1) X.A) (ha : JL X W ios (e :: es) c) (hg : Gl X x := by rfl) (hdb : (x == ("__debug__" : Str)) = false := by decide)
    (he : starEach (e :: es) X.env = (false, eval e X.env) :: starEach es X.env := by rfl) (hpl : (backTo pos (starEach es X.env)).any (·.1) = false := by rfl) : JS X W ios (.Raise (some (.Call (.Name x p) (e :: es) [] pos)) none pos') (raiseS x ps c) := by
  obtain ⟨C, fI, F, hm, hs, hz⟩ := T.ex
  refine ps_imp (ps_raise hc tk (DLX.XI.pmk_xi F hm hs hz hr ha hg hdb he hpl)) fun D σ H ⟨F1, own, ρ, hp, he, po⟩ => ?_
  refine ⟨F1, own, ρ, hp, he, PostS.bind he po fun own1 vs H1 ds ρ1 g1 e1 r1 p1 => ?_⟩
  have r1 : RepL X.K X.mg own1 H1 ds vs := r1
  by_cases hl : ds.length = ps.length
  · rw [if_pos hl] at p1
    refine ⟨by rw [r1.length]; exact hl, fun d hd => ?_⟩
    have x4 : Ext own1 H1 (setO own1 d .free) (upd H1 d (.xd (DLX.XI.fsPut ps vs []))) := Ext.new hd fun _ => by intro z; cases z
    refine p1 _ _ _ σ _ x4.good (e1.ext x4) ⟨C, hm, rfl, .inr ⟨d, _, rfl, setO_same, upd_same, fun f y hy => ?_⟩⟩
    obtain ⟨x, q1, q2⟩ := fsD_look (K := X.K) (mg := X.mg) r1 (fun y h => by cases h) hy
    exact ⟨x, q1, RepD.mono x4.good.fre q2⟩
  · rw [if_neg hl] at p1
    exact p1.elim
def raise0 (x : Str) : S := fun ρ => .exc (x, []) ρ
theorem js_raise0 {x : Str} (T : Xn X.K X.mg x) (hc : X.calm = true) (tk : Takes X W) (hg : Gl X x := by rfl) (hdb : (x == ("__debug__" : Str)) = false := by decide) : JS X W ios (.Raise (some (.Call (.Name x p) [] [] pos)) none pos') (raise0 x) := by
  obtain ⟨C, q, hm, kC, h1, h2⟩ := T.ex
  exact ps_imp (ps_raise hc tk (DLX.XI.pmk_own0 PySem.F.excBase_ValueError q hm kC (raises_own h1 h2) hg hdb)) fun D σ H ⟨F1, own, ρ, hp, he, po⟩ => po own _ _ σ H Good.refl he ⟨C, hm, rfl, .inl ⟨rfl, rfl⟩⟩
/-- a statement that is not reached -/
def stuckS : S := fun _ => .stuck
theorem js_stuck : JS X W ios st stuckS := ⟨fun _ _ _ _ _ _ ⟨_, _, _, _, _, po⟩ => po.elim⟩
theorem jss_stuck : JSs X W ios sts stuckS := ⟨fun _ _ _ _ _ _ ⟨_, _, _, _, _, po⟩ => po.elim⟩

/-! ## exceptions met -/
structure Hd where
  yes : List Str
  no : List Str
  slot : Option Nat
  run : Dx → S
def wipeO (i : Nat) : Out → Out
  | .next ρ => .next (ρ.set i none)
  | .brk ρ => .brk (ρ.set i none)
  | .cont ρ => .cont (ρ.set i none)
  | o => o
def noX : Out → Out
  | .exc _ _ => .stuck
  | o => o
theorem noX_post {F : Fi} {own : Own} {H : Hp} {o : Out} {D : Ends} {W W' : WX} (h : PostS K mg W F own H (noX o) D) : PostS K mg W' F own H o D := by
  cases o with
  | exc x ρ => exact h.elim
  | ret t ρ => cases t <;> exact h
  | next ρ => exact h
  | brk ρ => exact h
  | cont ρ => exact h
  | stuck => exact h
def handle : List Hd → Dx → S
  | [], x, ρ => .exc x ρ
  | h :: r, x, ρ => if x.1 ∈ h.yes then (match h.slot with | none => noX (h.run x ρ) | some i => if i < ρ.length then wipeO i (noX (h.run x (ρ.set i none))) else .stuck) else if x.1 ∈ h.no then handle r x ρ else .stuck
def tryS (c : S) (hs : List Hd) : S := fun ρ => match c ρ with
  | .exc x ρ' => handle hs x ρ'
  | o => o
/-- an except suite: slot i the exception, if it has a name -/
def cX (K : PySem.W.Frag) (mg : Str → Option Value) (ios : List Nat) (i : Option Nat) (run : Dx → S) (a : Addr) (cls : Value) (d : Option Addr) : TS := fun D σ H =>
  ∃ F own ρ x, F.pin.map (·.1) = ios ∧ Env K mg F own σ H ρ ∧ RepX K mg own H x cls d ∧ (∀ j, i = some j → σ[j]? = some (some (.ref a))) ∧ PostS K mg (fun _ _ _ _ => False) F own H (run x ρ) D
abbrev JX (X : Cx) (ios : List Nat) (i : Option Nat) (st : List Stmt) (run : Dx → S) : Prop := DLX.SuT X st (cX X.K X.mg ios i run)
/-- what is known of the classes that a clause takes, lets by -/
def Ys (K : PySem.W.Frag) (mg : Str → Option Value) (c : Value) (b : Bool) (xs : List Str) : Prop := ∀ x ∈ xs, ∀ C, mg x = some (.ref C) → PySem.W.exmOne K (.ref C) c = some b
inductive HJ (X : Cx) (ios : List Nat) : List ExceptHandler → List Hd → Prop
  | nil : HJ X ios [] []
  | anon {x : Str} {c : Value} {b₀ : Stmt} {suite : List Stmt} {np pos' : Pos} {hds : List ExceptHandler} {l : List Hd} {yes no : List Str} {run : Dx → S} (hc : Names X x c) (hy : Ys X.K X.mg c true yes) (hn : Ys X.K X.mg c false no) (hsu : JX X ios none (b₀ :: suite) run) (r : HJ X ios hds l) :
      HJ X ios (.ExceptHandler (some (.Name x np)) none (b₀ :: suite) pos' :: hds) (⟨yes, no, none, run⟩ :: l)
  | named {x n : Str} {i : Nat} {c : Value} {b₀ : Stmt} {suite : List Stmt} {np pos' : Pos} {hds : List ExceptHandler} {l : List Hd} {yes no : List Str} {run : Dx → S} (hc : Names X x c) (hi : X.N[i]? = some n) (hln : X.env.kindOf n = some .local) (ho : i ∉ ios) (hy : Ys X.K X.mg c true yes) (hn : Ys X.K X.mg c false no)
      (hsu : JX X ios (some i) (b₀ :: suite) run) (r : HJ X ios hds l) : HJ X ios (.ExceptHandler (some (.Name x np)) (some n) (b₀ :: suite) pos' :: hds) (⟨yes, no, some i, run⟩ :: l)
/-- the clauses, as ps_try_mix wants them -/
theorem hj_mix {hds : List ExceptHandler} {l : List Hd} (h : HJ X ios hds l) : ∃ l', DLX.HMix X hds l' ∧ ∀ {F : Fi} {own : Own} {σ : L2.St} {H : Hp} {ρ : Rho} {x : Dx} {cls : Value} {d : Option Addr} {D : Ends}, F.pin.map (·.1) = ios → Env X.K X.mg F own σ H ρ → RepX X.K X.mg own H x cls d →
    PostS X.K X.mg W F own H (handle l x ρ) D → DLX.wMix X.K W D l' cls d σ H := by
  induction h with
  | nil => exact ⟨[], .nil, fun {F own σ H ρ x cls d D} hp he rx po => po own cls d σ H Good.refl he rx⟩
  | @anon x c b₀ suite np pos' hds l yes no run hc hy hn hsu r ih =>
    obtain ⟨l', hm, ih⟩ := ih
    refine ⟨(c, none, cX X.K X.mg ios none run) :: l', .anon hc hsu hm, fun {F own σ H ρ x cls d D} hp he rx po => ?_⟩
    have rx0 := rx
    obtain ⟨C, m1, m2, m3⟩ := rx
    unfold handle at po
    by_cases h1 : x.1 ∈ yes
    · rw [if_pos h1] at po
      exact ⟨true, by rw [m2]; exact hy _ h1 C m1, fun _ a ha => ⟨F, own, ρ, x, hp, he, rx0, (fun _ z => by cases z), noX_post po⟩, fun z => by cases z⟩
    · rw [if_neg h1] at po
      by_cases h2 : x.1 ∈ no
      · rw [if_pos h2] at po
        exact ⟨false, by rw [m2]; exact hn _ h2 C m1, fun z => (by cases z), fun _ => ih hp he rx0 po⟩
      · rw [if_neg h2] at po
        exact po.elim
  | @named x n i c b₀ suite np pos' hds l yes no run hc hi hln ho hy hn hsu r ih =>
    obtain ⟨l', hm, ih⟩ := ih
    refine ⟨(c, some i, cX X.K X.mg ios (some i) run) :: l', .named hc hi hln hsu hm, fun {F own σ H ρ x cls d D} hp he rx po => ?_⟩
    have rx0 := rx
    obtain ⟨C, m1, m2, m3⟩ := rx
    unfold handle at po
    have ho' : i ∉ F.pin.map (·.1) := by rw [hp]; exact ho
    by_cases h1 : x.1 ∈ yes
    · rw [if_pos h1] at po
      simp only at po
      by_cases hl0 : i < ρ.length
      case neg => rw [if_neg hl0] at po; exact po.elim
      rw [if_pos hl0] at po
      refine ⟨true, by rw [m2]; exact hy _ h1 C m1, fun _ a ha => ⟨F, own, ρ.set i none, x, hp, he.wipe1 ho', rx0, fun j z => ?_, ?_⟩, fun z => by cases z⟩
      · cases z
        have hl : i < σ.length := by rw [he.len]; exact hl0
        rw [List.getElem?_set_self hl]
      · refine noX_post (W := W) ?_
        generalize noX (run x (ρ.set i none)) = o at po
        cases o with
        | exc x ρ => exact po
        | ret t ρ => cases t <;> exact po
        | next ρ => exact fun own' σ' H' g e => po own' _ H' g (e.wipe1 ho')
        | brk ρ => exact fun own' σ' H' g e => po own' _ H' g (e.wipe1 ho')
        | cont ρ => exact fun own' σ' H' g e => po own' _ H' g (e.wipe1 ho')
        | stuck => exact po
    · rw [if_neg h1] at po
      by_cases h2 : x.1 ∈ no
      · rw [if_pos h2] at po
        exact ⟨false, by rw [m2]; exact hn _ h2 C m1, fun z => (by cases z), fun _ => ih hp he rx0 po⟩
      · rw [if_neg h2] at po
        exact po.elim
theorem js_try {body : List Stmt} {h₀ : ExceptHandler} {hds : List ExceptHandler} {l : List Hd} {c : S} (hN : X.N.Nodup) (hs : X.stack = X.env :: X.outer) (hf : X.env.frame = some X.env.locals) (tk : Takes X W)
    (hb : ∀ (W : WX) (pn : List (Addr × Obj)) (xe : Value → Shared → Prop), Takes (X.tr pn xe) W → PassesOwn (model X.prog X.w) X.A X.env xe → JSs (X.tr pn xe) W ios body c)
    (hh : HJ X ios (h₀ :: hds) l) : JS X W ios (.Try body (h₀ :: hds) [] [] pos) (tryS c l) := by
  obtain ⟨l', hm, key⟩ := hj_mix (W := W) hh
  refine ps_imp (DLX.ps_try_mix (l := l') (tb := fun W => cS X.K X.mg W ios c) hN hs hf tk hb hm) fun D σ H ⟨F, own, ρ, hp, he, po⟩ => ?_
  refine ⟨F, own, ρ, hp, he, ?_⟩
  unfold tryS at po
  cases hc : c ρ with
  | exc x ρ' =>
    rw [hc] at po
    exact fun own' cls dd σ' H' g e r => key hp e r (PostS.move g po)
  | ret t ρ' => rw [hc] at po; cases t <;> exact po
  | next ρ' => rw [hc] at po; exact po
  | brk ρ' => rw [hc] at po; exact po
  | cont ρ' => rw [hc] at po; exact po
  | stuck => rw [hc] at po; exact po
/-! ## what an except suite says of its exception -/
def canonX {α β : Type} (K : PySem.W.Frag) (mg : Str → Option Value) (ios : List Nat) (i : Option Nat) (a : Addr) (cls : Value) (d : Option Addr) (rep : L2.St → Rp α β) (c : Dx → C α) : L2.St → Hp → (β → Hp → Prop) → Prop := fun σ H Q =>
  ∃ F own ρ x, F.pin.map (·.1) = ios ∧ Env K mg F own σ H ρ ∧ RepX K mg own H x cls d ∧ (∀ j, i = some j → σ[j]? = some (some (.ref a))) ∧ PostR K mg (fun _ _ _ _ => False) F own σ H (rep σ) (c x ρ) Q
abbrev JXE (X : Cx) (ios : List Nat) (i : Option Nat) (e : Expr) (c : Dx → C Dt) : Prop := ∀ (a : Addr) (oe : Obj) (cls : Value) (d : Option Addr) (pn : List (Addr × Obj)), Zc cls d oe → (∃ vs, oe.data = .fields vs) → PE (X.suite a ((a, oe) :: pn)) e (canonX X.K X.mg ios i a cls d (fun _ => repE X.K X.mg) c)
abbrev JXL (X : Cx) (ios : List Nat) (i : Option Nat) (es : List Expr) (c : Dx → C (List Dt)) : Prop := ∀ (a : Addr) (oe : Obj) (cls : Value) (d : Option Addr) (pn : List (Addr × Obj)), Zc cls d oe → (∃ vs, oe.data = .fields vs) → PA (X.suite a ((a, oe) :: pn)) es (canonX X.K X.mg ios i a cls d (fun _ => repLst X.K X.mg) c)
abbrev W00 : WX := fun _ _ _ _ => False
variable {i : Option Nat}
theorem jx_of {c : C Dt} (h : ∀ (a : Addr) (pn : List (Addr × Obj)), JE (X.suite a pn) W00 ios e c) : JXE X ios i e (fun _ => c) := fun a oe cls d pn _ _ => pe_imp (h a _) fun σ H Q ⟨F, own, ρ, x, hp, he, rx, hs, po⟩ => ⟨F, own, ρ, hp, he, po⟩
/-- e.f, e slot j -/
def xfC (c f : Str) (x : Dx) : C Dt := lift (if x.1 = c then x.2.lookup f else none)
structure Xf (K : PySem.W.Frag) (mg : Str → Option Value) (c f : Str) : Prop where
  ex : ∃ C, mg c = some (.ref C) ∧ XfC K C ∧ PySem.W.findIn K (.ref C) f = some none
theorem jx_fld {j : Nat} {n c f : Str} (T : Xf X.K X.mg c f) (hN : X.N[j]? = some n := by rfl) (hv : Vis X.env.scope n := by first | exact Or.inl rfl | exact Or.inr (Or.inl rfl) | exact Or.inr (Or.inr rfl)) (hd : (n == ("__debug__" : Str)) = false := by decide) (hcd : (n == ("__classdict__" : Str)) = false := by decide)
    (hb : attributeBase (.Name n p) f X.env (eval (.Name n p) X.env) = eval (.Name n p) X.env := by rfl) : JXE X ios (some j) (.Attribute (.Name n p) f pos) (xfC c f) := fun a oe cls d pn hz hf => by
  obtain ⟨C, hm, T1, T2⟩ := T.ex
  refine pe_imp (pe_xf T1 T2 hz hf (pe_var (X := X.suite a ((a, oe) :: pn)) (i := j) hN hv hd hcd) hb) fun σ H Q ⟨F, own, ρ, x, hp, he, rx, hs, po⟩ => ?_
  unfold xfC at po
  by_cases hx : x.1 = c
  · rw [if_pos hx] at po
    cases hl : x.2.lookup f with
    | none => rw [hl] at po; exact po.elim
    | some y =>
      rw [hl] at po
      obtain ⟨C', m1, m2, m3⟩ := rx
      rw [hx, hm] at m1
      cases m1
      rcases m3 with ⟨m3, _⟩ | ⟨dd, q, e1, fr, h4, h5⟩
      · rw [m3] at hl; cases hl
      · obtain ⟨v, q1, q2⟩ := h5 f y hl
        exact ⟨_, hs j rfl, rfl, m2, dd, q, v, e1, h4, q1, po own v H Good.refl he q2⟩
  · rw [if_neg hx] at po
    exact po.elim
theorem jxl_nil : JXL X ios i [] (fun _ => ret []) := fun a oe cls d pn _ _ => pa_imp pa_nil fun σ H Q ⟨F, own, ρ, x, hp, he, rx, hs, po⟩ => po own [] H Good.refl he RepL.nil
theorem jxl_cons {c : Dx → C Dt} {r : Dx → C (List Dt)} (h : JXE X ios i e c) (hr : JXL X ios i es r) (hs : starEach (e :: es) X.env = (false, eval e X.env) :: starEach es X.env := by rfl) : JXL X ios i (e :: es) (fun x => cCons (c x) (r x)) := fun a oe cls d pn hz hf =>
  pa_imp (pa_cons (h a oe cls d pn hz hf) (hr a oe cls d pn hz hf) hs) fun σ H Q ⟨F, own, ρ, x, hp, he, rx, hs, po⟩ =>
    ⟨F, own, ρ, x, hp, he, rx, hs, PostR.bind anti_L po fun own1 y H1 a ρ1 g1 e1 r1 p1 => ⟨F, own1, ρ1, x, hp, e1, rx.mono g1.fre, hs, PostR.bind anti_L p1 fun own2 y H2 l ρ2 g2 e2 r2 p2 =>
      p2 own2 _ H2 Good.refl e2 (RepL.cons (RepD.mono g2.fre r1) r2)⟩⟩
theorem jx_tup {c : Dx → C (List Dt)} {x1} (h : JXL X ios i es c) : JXE X ios i (.Tuple es x1 pos) (fun x => cTup (c x)) := fun a oe cls d pn hz hf => pe_imp (pe_tup (h a oe cls d pn hz hf)) fun σ H Q ⟨F, own, ρ, x, hp, he, rx, hs, po⟩ => by
  refine ⟨F, own, ρ, x, hp, he, rx, hs, PostR.bind anti_E po fun own1 y H1 a ρ1 g1 e1 r1 p1 => ?_⟩
  cases hz : fits a.length with
  | false => simp only [lift, hz] at p1; exact p1.elim
  | true =>
    simp only [lift, hz, if_true] at p1
    have r1' : RepL X.K X.mg own1 H1 a y := r1
    exact ⟨by rw [r1'.length]; exact fits_le hz, new_tup r1' fun own' H' v x4 r4 => p1 own' v H' x4.good (e1.ext x4) r4⟩
/-- a list, frozen as it is made -/
def cLstZ (c : C (List Dt)) : C Dt := bindR c fun ds => lift (if fits ds.length then some (.lst ds) else none)
theorem jx_lst {c : Dx → C (List Dt)} (h : JXL X ios i es c) : JXE X ios i (.List es pos) (fun x => cLstZ (c x)) := fun a oe cls d pn hz hf => pe_imp (pe_lst (h a oe cls d pn hz hf)) fun σ H Q ⟨F, own, ρ, x, hp, he, rx, hs, po⟩ => by
  refine ⟨F, own, ρ, x, hp, he, rx, hs, PostR.bind anti_E po fun own1 y H1 a ρ1 g1 e1 r1 p1 => ?_⟩
  cases hz : fits a.length with
  | false => simp only [lift, hz] at p1; exact p1.elim
  | true =>
    simp only [lift, hz, if_true] at p1
    have r1' : RepL X.K X.mg own1 H1 a y := r1
    exact ⟨by rw [r1'.length]; exact fits_le hz, new_lst r1' fun own' H' v x4 r4 => p1 own' v H' x4.good (e1.ext x4) r4⟩
/-- the suite: return e -/
theorem jx_ret {c : Dx → C Dt} (h : JXE X ios i e c) : JX X ios i [.Return (some e) pos] (fun x => retS (c x)) := fun a oe cls d pn hz hf => pss_one (ps_imp (ps_ret (h a oe cls d pn hz hf)) fun D σ H ⟨F, own, ρ, x, hp, he, rx, hs, po⟩ =>
  ⟨F, own, ρ, x, hp, he, rx, hs, PostS.bind he po fun own1 v H1 d ρ1 g1 e1 r1 p1 => p1 own1 σ v H1 Good.refl e1 r1⟩)
/-- .. any other suite that asks nothing of the exception -/
theorem jx_any {c : S} (h : ∀ (a : Addr) (pn : List (Addr × Obj)), JSs (X.suite a pn) W00 ios sts c) : JX X ios i sts (fun _ => c) := fun a oe cls d pn _ _ => pss_imp (h a _) fun D σ H ⟨F, own, ρ, x, hp, he, rx, hs, po⟩ => ⟨F, own, ρ, hp, he, po⟩
end
end DL
end
section
set_option Elab.async false
set_option linter.all false
set_option maxRecDepth 100000
set_option maxHeartbeats 4000000
/-! set(text), its length -/
namespace DLX
namespace ST
open PySem PySem.Spec PyProof.Rows
def ded (σ : List Nat) (v : Nat) : List Nat := if v ∈ σ then σ else σ ++ [v]
def dedN (l : List Nat) : List Nat := l.foldl ded []
def memS (σ : List Nat) (k : Str) : Bool := σ.any fun c => decide (k = ⟨#[c]⟩)
theorem one_inj {a b : Nat} (h : (⟨#[a]⟩ : Str) = ⟨#[b]⟩) : a = b := by
  have : #[a] = #[b] := congrArg Str.cps h
  simpa using this
theorem memS_one {σ : List Nat} {v : Nat} : memS σ ⟨#[v]⟩ = decide (v ∈ σ) := by
  unfold memS
  rw [Bool.eq_iff_iff]
  simp only [List.any_eq_true, decide_eq_true_eq]
  constructor
  · rintro ⟨c, hc, e⟩
    rw [one_inj e]; exact hc
  · exact fun h => ⟨v, h, rfl⟩
theorem memS_ded {σ : List Nat} {v : Nat} {k : Str} : memS (ded σ v) k = (memS σ k || decide (k = ⟨#[v]⟩)) := by
  unfold ded
  by_cases h : v ∈ σ
  · rw [if_pos h]
    by_cases e : k = ⟨#[v]⟩
    · subst e
      rw [memS_one, decide_eq_true h, Bool.true_or]
    · simp [e]
  · rw [if_neg h]
    unfold memS
    rw [List.any_append]
    simp
theorem ded_len {σ : List Nat} {v : Nat} : (ded σ v).length = if memS σ ⟨#[v]⟩ = true then σ.length else σ.length + 1 := by
  rw [memS_one]
  unfold ded
  by_cases h : v ∈ σ
  · rw [if_pos h, if_pos (decide_eq_true h)]
  · rw [if_neg h, if_neg (by simpa using h)]; simp
theorem ded_le {l : List Nat} : ∀ {σ : List Nat}, (l.foldl ded σ).length ≤ σ.length + l.length := by
  induction l with
  | nil => intro σ; simp
  | cons v l ih =>
    intro σ
    have h := ih (σ := ded σ v)
    have : (ded σ v).length ≤ σ.length + 1 := by unfold ded; split <;> simp
    simp only [List.foldl_cons, List.length_cons]
    omega
theorem dedN_succ {l : List Nat} {i : Nat} {c : Nat} (h : l[i]? = some c) : dedN (l.take (i + 1)) = ded (dedN (l.take i)) c := by
  unfold dedN
  rw [List.take_succ, h]
  simp
section
variable {prog : Program} {w : World} {A : Around} {R : Result → Shared → Prop} {I : Addr} {n : Nat} {fp wr : List Addr} {x : Str} {St : Nat → Heap → Prop}
theorem set_loop (W : Walks prog w A.in1 I fp wr n (SignAt x) St) (hn : n = x.cps.size) (S : Addr) (hSw : S ∉ wr) (hSf : S ∉ fp) (hb : n + 1 < scanBound) : ∀ (k i : Nat) (s : Shared), n - i = k → i ≤ n → St i s.heap →
    s.heap.SetOf (strKind prog w) S (memS (dedN (x.cps.toList.take i))) (dedN (x.cps.toList.take i)).length →
    (∀ h' tk, (∀ b o, b ∉ S :: wr → s.heap.get? b = some o → h'.get? b = some o) → h'.SetOf (strKind prog w) S (memS (dedN x.cps.toList)) (dedN x.cps.toList).length → R (.ok (.ret .none)) { s with heap := h', toks := tk }) →
    codeAny (model prog w) A (.builtin "set.update.loop" ⟨[.ref S, .ref I], []⟩) R s := by
  intro k
  induction k with
  | zero =>
    intro i s hk hi hst hS hR
    have hin : i = n := by omega
    have e : x.cps.toList.take i = x.cps.toList := List.take_of_length_le (by rw [hin, hn]; simp)
    rw [e] at hS
    refine codeAny_builtin PyProof.Rows.F.entry_set_update_loop ?_
    rw [Around.under_plainId PyProof.Rows.F.plain_set_update_loop _]
    show wpAny _ A.in1 (pyNext (.ref I) >>= _) _ _ s
    refine wpAny_bind (W.done s _ _ (by rw [← hin]; exact hst) fun h' tk hk' => ?_)
    show wpAny _ A.in1 (ret Value.none) _ _ _
    refine wpAny_pure (hR h' tk (fun b o hb e => hk' b o (fun z => hb (List.mem_cons_of_mem _ z)) e) ?_)
    obtain ⟨o, es, ep, t, ho, rest⟩ := hS
    exact ⟨o, es, ep, t, hk' S _ hSw ho, rest⟩
  | succ k ih =>
    intro i s hk hi hst hS hR
    have hlt : i < n := by omega
    refine codeAny_builtin PyProof.Rows.F.entry_set_update_loop ?_
    rw [Around.under_plainId PyProof.Rows.F.plain_set_update_loop _]
    show wpAny _ A.in1 (pyNext (.ref I) >>= _) _ _ s
    refine wpAny_bind (W.item i s _ _ hlt hst fun v h' tk hP hst' hk' => ?_)
    obtain ⟨c, t, hc, rfl⟩ := hP
    have hc2 : x.cps.toList[i]? = some c := by rw [Array.getElem?_toList]; exact hc
    have hS' : h'.SetOf (strKind prog w) S (memS (dedN (x.cps.toList.take i))) (dedN (x.cps.toList.take i)).length := by
      obtain ⟨o, es, ep, tb, ho, rest⟩ := hS
      exact ⟨o, es, ep, tb, hk' S _ hSw ho, rest⟩
    show wpAny _ A.in1 (holding [Value.str ⟨#[c]⟩ t] (setAdd S (.str ⟨#[c]⟩ t)) >>= _) _ _ _
    refine wpAny_bind (wpAny_holding ?_)
    unfold setAdd
    refine wpAny_holding (wpAny_bind ((strKind prog w).pyHash (k := ⟨#[c]⟩) (strKind_is _ _ _ _) ?_))
    have hroom : (dedN (x.cps.toList.take i)).length + 1 < scanBound := by
      have h1 : (dedN (x.cps.toList.take i)).length ≤ 0 + (x.cps.toList.take i).length := ded_le (σ := [])
      rw [List.length_take] at h1
      omega
    refine wpAny_setAddHashed_of (knd := strKind prog w) (s := { s with heap := h', toks := tk + 1 }) (strKind_is _ _ _ _) rfl hS' hroom fun h2 hsb hS2 => ?_
    have hSi : h2.SetOf (strKind prog w) S (memS (dedN (x.cps.toList.take (i + 1)))) (dedN (x.cps.toList.take (i + 1))).length :=
      SetOf_congr hS2 (fun k' => by rw [dedN_succ hc2, memS_ded]) (by rw [dedN_succ hc2, ded_len])
    refine wpAny_pure ⟨plainId_quiet PyProof.Rows.F.plain_set_update_loop _, ih (i + 1) { s with heap := h2, toks := tk + 1 } (by omega) hlt (W.frame _ h' h2 hst' fun b hb o e => ?_) hSi fun h3 tk3 hk3 hS3 => ?_⟩
    · rw [hsb.2 b (fun h : b = S => hSf (by rw [← h]; exact hb))]; exact e
    · refine hR h3 tk3 (fun b o hb e => hk3 b o hb ?_) hS3
      show h2.get? b = some o
      rw [hsb.2 b (fun h : b = S => hb (by rw [h]; exact List.mem_cons_self))]
      exact hk' b o (fun z => hb (List.mem_cons_of_mem _ z)) e
end
section
variable {prog : Program} {w : World} {A : Around} {E : Value → Shared → Prop} {s : Shared}
theorem call_set_txt {x : Str} {t : Tok} {Q : Value → Shared → Prop} (hh : A.handled = none) (hb : x.cps.size + 1 < scanBound)
    (h : ∀ (h' : Heap) (tk : Nat), h'.SetOf (strKind prog w) s.heap.objs.size (memS (dedN x.cps.toList)) (dedN x.cps.toList).length → (∀ b o, b < s.heap.objs.size → s.heap.get? b = some o → h'.get? b = some o) → Q (.ref s.heap.objs.size) { s with heap := h', toks := tk }) :
    wpAny (model prog w) A (call (.type "set") [.str x t]) Q E s := by
  obtain ⟨c, tl, hmro⟩ := PySem.F.called_set.mro
  have hmade := PySem.F.called_set.made
  have hsub := PySem.F.called_set.sub
  refine wpAny_call (codeAny_of_tree ?_)
  show wpAny _ _ (callAny (.type "set") _) _ _ _
  refine wpAny_pure ⟨Code.quiet_builtin _ (by decide +kernel), codeAny_builtin PySem.F.entry_type_call ?_⟩
  rw [Around.under_plain (weight_type_call_type "set" [.str x t] []) rfl]
  have h1 := PySem.F.called_set.notType
  have h2 := PySem.F.called_set.canCreate
  have hct := PySem.F.typeCall_set_1 (.str x t)
  repeat (any_goals (first | assumption | wp_step))
  refine codeAny_mono (code_set_new_1 (.str x t) (E := E) (Q₁ := fun obj s₁ => ∃ led : Bool, obj = .ref s.heap.objs.size ∧ s₁ = { s with heap := s.heap.push { cls := .type "set", dict := none, data := .set #[] 0 (.fresh 0 0 led) } }) fun led => ⟨led, rfl, rfl⟩) fun r s₁ hr => ?_
  cases r with
  | error e => exact hr
  | ok fl =>
    cases fl with
    | ret obj =>
      obtain ⟨led, rfl, rfl⟩ := hr
      have hS : (s.heap.push { cls := .type "set", dict := none, data := .set #[] 0 (.fresh 0 0 led) }).get? s.heap.objs.size = some { cls := .type "set", dict := none, data := .set #[] 0 (.fresh 0 0 led) } := Heap.get?_push_size _ rfl
      have hT : Shared.TypeIs { s with heap := s.heap.push { cls := .type "set", dict := none, data := .set #[] 0 (.fresh 0 0 led) } } (.ref s.heap.objs.size) "set" := ⟨_, hS, rfl⟩
      have hli := PySem.F.called_set.init.lookup
      have hbi := PySem.F.called_set.init.bind (.ref s.heap.objs.size)
      repeat (any_goals (first | assumption | wp_step))
      refine codeAny_mono (codeAny_call_builtin (R := wants (fun r s₂ => r = .none ∧ ∃ h' tk, s₂ = { s with heap := h', toks := tk } ∧ h'.SetOf (strKind prog w) s.heap.objs.size (memS (dedN x.cps.toList)) (dedN x.cps.toList).length ∧
          (∀ b o, b < s.heap.objs.size → s.heap.get? b = some o → h'.get? b = some o)) E) PySem.F.called_set.init.plain PySem.F.entry_set_init (check_set_init_1 hT ?_)) fun r₂ s₂ hr₂ => ?_
      · have hTs : ∀ s' : Shared, s'.TypeIs (.str x t) "str" := fun s' => typeIs_str s' x t
        have hsls := PySem.F.sub_str_set
        have hslf := PySem.F.sub_str_frozenset
        have hne : (Value.type "str" == Value.type "dict") = false := by decide
        unfold Builtin.«set.__init__» noKeywords Builtin.Frozenset.updateFrom
        generalize hPI : pyIter = PI
        wp_walk
        subst hPI
        refine wpAny_pyIter_str fun o St hW hst => ?_
        refine wpAny_bind (wpAny_runValue ?_)
        have hsz : (s.heap.push { cls := .type "set", dict := none, data := .set #[] 0 (.fresh 0 0 led) }).objs.size = s.heap.objs.size + 1 := Heap.size_push ..
        have hn1 : s.heap.objs.size ∉ [(s.heap.push { cls := .type "set", dict := none, data := .set #[] 0 (.fresh 0 0 led) }).objs.size] := by
          rw [hsz, List.mem_singleton]; exact Nat.ne_of_lt (Nat.lt_succ_self _)
        refine set_loop (hW _ (by simp [hh])) rfl s.heap.objs.size hn1 hn1 hb _ 0 _ rfl (Nat.zero_le _) hst ?hS0 ?hR
        case hS0 =>
          have hget : ((s.heap.push { cls := .type "set", dict := none, data := .set #[] 0 (.fresh 0 0 led) }).push o).get? s.heap.objs.size = some { cls := .type "set", dict := none, data := .set #[] 0 (.fresh 0 0 led) } := Heap.get?_push_of_some _ hS
          exact SetOf_congr ((setObjOf_fresh (knd := strKind prog w) led).setOf hget (by unfold scanBound; omega)) (fun _ => rfl) rfl
        case hR =>
          intro h' tk' hk' hS'
          show wpAny _ _ _ _ _ _
          refine wpAny_pure ?_
          show wpAny _ _ (ret Value.none) _ _ _
          refine wpAny_pure ⟨rfl, h', tk', rfl, hS', fun b o' hb e => ?_⟩
          refine hk' b o' ?_ (Heap.get?_push_of_some _ (Heap.get?_push_of_some _ e))
          rw [hsz]
          simp only [List.mem_cons, List.mem_singleton, List.not_mem_nil, or_false, not_or]
          exact ⟨Nat.ne_of_lt hb, Nat.ne_of_lt (Nat.lt_succ_of_lt hb)⟩
      · cases r₂ with
        | error e => exact hr₂
        | ok fl₂ =>
          cases fl₂ with
          | ret r =>
            obtain ⟨rfl, h', tk, rfl, hS', hk'⟩ := hr₂
            repeat (any_goals (first | assumption | wp_step))
            exact h _ _ hS' hk'
          | _ => exact hr₂.elim
    | _ => exact hr.elim
end
section
open L2
variable {X : Cx}
def tLenSetS (ta : TE) : TE := fun σ H Q => ta σ H fun x H1 => ∃ z : Str, x = .str z ∧ z.cps.size + 1 < scanBound ∧ Q (.int ((dedN z.cps.toList).length : Nat)) H1
theorem pe_lenSetS {a : Expr} {ta : TE} {p p2 q pos : Pos} (hc : X.calm = true) (hg : Gl X "len") (hm : X.mg "len" = none) (hg2 : Gl X "set") (hm2 : X.mg "set" = none) (ha : PE X a ta)
    (na : starEach [a] X.env = (false, eval a X.env) :: starEach [] X.env := by rfl) : PE X (.Call (.Name "len" p) [.Call (.Name "set" p2) [a] [] q] [] pos) (tLenSetS ta) := by
  refine ⟨fun pins s σ H Q I h => ?_⟩
  refine Call_ (ld_blt I hg hm boot_len (PyProof.Rows.callWith_builtin1 (PyProof.Rows.args_cons ?_ rfl) rfl rfl))
  refine Call_ (ld_blt I hg2 hm2 boot_set (PyProof.Rows.callWith_type1 (PyProof.Rows.args_cons (thn (ha.run pins s σ H _ I h) fun v s1 ⟨x, H1, I1, r1, q1⟩ => PyProof.Rows.args_nil ?_) na) na rfl))
  obtain ⟨z, rfl, hz, q1⟩ := q1
  obtain ⟨t, rfl⟩ := r1
  refine call_set_txt (I1.ok.hd hc) hz fun h' tk hS hk => ?_
  refine PyProof.Rows.args_nil ?_
  obtain ⟨o, es, ep, t', ho, hex, hd, _, _, _, hf, hn⟩ := hS
  have I2 : Inv X pins σ H1 { s1 with heap := h', toks := tk } := I1.kept fun b o e => hk b o (Heap.lt_size e) e
  have hle : (dedN z.cps.toList).length ≤ 0 + z.cps.toList.length := ded_le (σ := [])
  have hsb : scanBound ≤ 100000 := by unfold scanBound; omega
  refine call_len_set ho hex hd hf (by rw [hn]; rw [Array.length_toList] at hle; omega) ⟨.int _, H1, I2.tok _, ⟨_, by rw [hn]⟩, q1⟩
end
end ST
end DLX
end
section
set_option Elab.async false
set_option linter.all false
set_option maxRecDepth 100000
set_option maxHeartbeats 4000000
namespace DL
open PySem PySem.Spec PyProof.Rows L2
section
variable {X : Cx} {W : WX} {ios : List Nat} {e a b o : Expr} {es : List Expr} {pos p apos cpos : Pos} {K : PySem.W.Frag} {mg : Str → Option Value}
/-! ## the module's constants -/
theorem je_gstr {x z : Str} {u : Tok} {s : List Nat} (hm : X.mg x = some (.str z u)) (hz : z = mkS s) (hg : Gl X x := by rfl) (hd : (x == ("__debug__" : Str)) = false := by decide) : JE X W ios (.Name x pos) (ret (.str s)) :=
  je_c (pe_glob hg hm (v := .str z) ⟨u, rfl⟩ hd) fun _ _ => by simp only [RepD, hz]
theorem je_gint {x : Str} {u : Tok} {i : Int} (hm : X.mg x = some (.int i u)) (hg : Gl X x := by rfl) (hd : (x == ("__debug__" : Str)) = false := by decide) : JE X W ios (.Name x pos) (ret (.int i)) :=
  je_c (pe_glob hg hm (v := .int i) ⟨u, rfl⟩ hd) fun _ _ => by simp only [RepD]
/-! ## built-ins of one operand that is looked at -/
def CallD (K : PySem.W.Frag) (mg : Str → Option Value) (r : List V → Hp → VK → Prop) (f : Dt → Option Dt) : Prop := ∀ own H a x d (Q : VK), RepPk K mg own H a x → f a = some d → (∀ own' H' v, Ext own H own' H' → RepD K mg own' H' d v → Q v H') → r [x] H Q
def c1 (f : Dt → Option Dt) (ca : C Ar) : C Dt := bindR ca fun x => bindR (der x) fun p => lift (f p)
theorem post1 {r : List V → Hp → VK → Prop} {f : Dt → Option Dt} (hf : CallD K mg r f) {ca : C Ar} {σ : L2.St} {H : Hp} {Q : VK} (h : cE K mg W ios (c1 f ca) σ H Q) : tCB r (tCons (cQ K mg W ios ca) tNil) σ H Q := by
  obtain ⟨F, own, ρ, hp, he, po⟩ := h
  refine ⟨F, own, ρ, hp, he, PostR.bind anti_E po fun own1 x H1 a ρ1 g1 e1 r1 p1 => ?_⟩
  unfold bindR der at p1
  cases h1 : deref a ρ1 with
  | none => rw [h1] at p1; exact p1.elim
  | some q =>
    rw [h1] at p1
    simp only at p1
    cases h2 : f q with
    | none => rw [show lift (f q) ρ1 = (.stuck : Res Dt) by unfold lift; rw [h2]] at p1; exact p1.elim
    | some d =>
      rw [show lift (f q) ρ1 = .ok d ρ1 by unfold lift; rw [h2]] at p1
      exact hf own1 H1 q x d Q (deref_pk e1 r1 h1) h2 fun own3 H3 v x3 r3 => p1 own3 v H3 x3.good (e1.ext x3) r3
theorem je_callB1 {id : String} {x : Str} {r : List V → Hp → VK → Prop} {f : Dt → Option Dt} {ca : C Ar} (hc : CallR X (.builtin id) r) (hf : CallD X.K X.mg r f) (hv : bootBuiltins x = some (.builtin id)) (hm : X.mg x = none) (ha : JQ X W ios e ca) (hg : Gl X x := by rfl) (hn : x ≠ "__name__" := by decide) (hdb : (x == ("__debug__" : Str)) = false := by decide)
    (he : starEach (e :: []) X.env = (false, eval e X.env) :: starEach [] X.env := by rfl) (hpl : (backTo pos (starEach [] X.env)).any (·.1) = false := by rfl) : JE X W ios (.Call (.Name x p) [e] [] pos) (c1 f ca) :=
  pe_imp (pe_callB hc hg hm hv (pa_cons ha pa_nil he) hn hdb he hpl) fun σ H Q h => post1 hf h
theorem je_callT1 {T : String} {x : Str} {r : List V → Hp → VK → Prop} {f : Dt → Option Dt} {ca : C Ar} (hc : CallR X (.type T) r) (hf : CallD X.K X.mg r f) (hv : bootBuiltins x = some (.type T)) (hm : X.mg x = none) (ha : JQ X W ios e ca) (hg : Gl X x := by rfl) (hn : x ≠ "__name__" := by decide) (hdb : (x == ("__debug__" : Str)) = false := by decide)
    (he : starEach (e :: []) X.env = (false, eval e X.env) :: starEach [] X.env := by rfl) (hpl : (backTo pos (starEach [] X.env)).any (·.1) = false := by rfl) : JE X W ios (.Call (.Name x p) [e] [] pos) (c1 f ca) :=
  pe_imp (pe_callTy hc hg hm hv (pa_cons ha pa_nil he) hn hdb he hpl) fun σ H Q h => post1 hf h
/-- len -/
def dLen : Dt → Option Dt
  | .str s => if fits s.length then some (.int s.length) else none
  | .lst ds => some (.int ds.length)
  | .tup ds => some (.int ds.length)
  | .scr ns => some (.int ns.length)
  | _ => none
theorem cd_len : CallD K mg (fun xs H Q => ∃ x n, xs = [x] ∧ LenV K x H n ∧ Q (.int n) H) dLen := by
  intro own H a x d Q r h q
  cases a with
  | str s =>
    have h : (if fits s.length = true then some (Dt.int s.length) else none) = some d := h
    by_cases hz : fits s.length = true
    · rw [if_pos hz] at h
      cases h
      rw [pk_str r]
      exact ⟨_, s.length, rfl, ⟨by rw [mkS_len]; exact fits_le hz, (mkS_len s).symm⟩, q own H _ Ext.refl (rep_int _)⟩
    · rw [if_neg hz] at h
      cases h
  | lst ds =>
    cases h
    obtain ⟨a, xs, rfl, h1, h2⟩ := pk_lst r
    exact ⟨_, ds.length, rfl, .inl ⟨xs, SqL.of h1, h2.length.symm⟩, q own H _ Ext.refl (rep_int _)⟩
  | tup ds =>
    cases h
    obtain ⟨a, xs, rfl, _, h1, h2⟩ := pk_tup r
    exact ⟨_, ds.length, rfl, .inr ⟨xs, SqT.of h1, h2.length.symm⟩, q own H _ Ext.refl (rep_int _)⟩
  | scr ns =>
    cases h
    obtain ⟨a, rfl, h1⟩ := pk_scr r
    exact ⟨_, ns.length, rfl, .inl ⟨_, h1, by rw [List.length_map]⟩, q own H _ Ext.refl (rep_int _)⟩
  | _ => cases h
theorem je_len {ca : C Ar} (hm : X.mg "len" = none) (ha : JQ X W ios e ca) (hg : Gl X "len" := by rfl) (he : starEach (e :: []) X.env = (false, eval e X.env) :: starEach [] X.env := by rfl) (hpl : (backTo pos (starEach [] X.env)).any (·.1) = false := by rfl) : JE X W ios (.Call (.Name "len" p) [e] [] pos) (c1 dLen ca) :=
  je_callB1 call_len cd_len boot_len hm ha hg (by decide) (by decide) he hpl
/-- int -/
def dInt : Dt → Option Dt
  | .int i => some (.int i)
  | .bl k => some (.int (if k then 1 else 0))
  | _ => none
theorem cd_int : CallD K mg (fun xs H Q => (∃ i, xs = [.int i] ∧ Q (.int i) H) ∨ ∃ k, xs = [.bl k] ∧ Q (.int (if k then 1 else 0)) H) dInt := by
  intro own H a x d Q r h q
  cases a with
  | int i => cases h; rw [pk_int r]; exact .inl ⟨i, rfl, q own H _ Ext.refl (rep_int _)⟩
  | bl k => cases h; rw [pk_bl r]; exact .inr ⟨k, rfl, q own H _ Ext.refl (rep_int _)⟩
  | _ => cases h
theorem boot_int' : bootBuiltins "int" = some (.type "int") := by first | boot_by_name | rfl | kernel_rfl
theorem je_int1 {ca : C Ar} (hm : X.mg "int" = none) (ha : JQ X W ios e ca) (hg : Gl X "int" := by rfl) (he : starEach (e :: []) X.env = (false, eval e X.env) :: starEach [] X.env := by rfl) (hpl : (backTo pos (starEach [] X.env)).any (·.1) = false := by rfl) : JE X W ios (.Call (.Name "int" p) [e] [] pos) (c1 dInt ca) :=
  je_callT1 call_int1 cd_int boot_int' hm ha hg (by decide) (by decide) he hpl
/-- all, any -/
def blsOf : List Dt → Option (List Bool)
  | [] => some []
  | .bl b :: r => (blsOf r).map (b :: ·)
  | _ => none
theorem bls_rep {own : Own} {H : Hp} : ∀ {ds : List Dt} {xs : List V} {bs : List Bool}, RepL K mg own H ds xs → blsOf ds = some bs → xs = bs.map V.bl
  | [], _, _, r, h => by simp only [RepL] at r; subst r; cases h; rfl
  | d :: ds, _, bs, r, h => by
    simp only [RepL] at r
    obtain ⟨x, q, rfl, r1, r2⟩ := r
    cases d with
    | bl b =>
      simp only [blsOf] at h
      cases h2 : blsOf ds with
      | none => rw [h2] at h; cases h
      | some cs =>
        rw [h2] at h
        cases h
        simp only [RepD] at r1
        rw [bls_rep r2 h2, r1]
        rfl
    | _ => cases h
def dAll : Dt → Option Dt
  | .lst ds => (blsOf ds).map fun bs => .bl (bs.all id)
  | _ => none
def dAny : Dt → Option Dt
  | .lst ds => (blsOf ds).map fun bs => .bl (bs.any id)
  | _ => none
theorem cd_all : CallD K mg (rAll K) dAll := by
  intro own H a x d Q r h q
  cases a with
  | lst ds =>
    have h : (blsOf ds).map (fun bs => Dt.bl (bs.all id)) = some d := h
    cases h2 : blsOf ds with
    | none => rw [h2] at h; cases h
    | some bs =>
      rw [h2] at h
      cases h
      obtain ⟨a, xs, rfl, h1, r1⟩ := pk_lst r
      exact ⟨a, bs, rfl, SqL.of (by rw [h1, bls_rep r1 h2]), q own H _ Ext.refl (rep_bl _)⟩
  | _ => cases h
theorem cd_any : CallD K mg (rAny K) dAny := by
  intro own H a x d Q r h q
  cases a with
  | lst ds =>
    have h : (blsOf ds).map (fun bs => Dt.bl (bs.any id)) = some d := h
    cases h2 : blsOf ds with
    | none => rw [h2] at h; cases h
    | some bs =>
      rw [h2] at h
      cases h
      obtain ⟨a, xs, rfl, h1, r1⟩ := pk_lst r
      exact ⟨a, bs, rfl, SqL.of (by rw [h1, bls_rep r1 h2]), q own H _ Ext.refl (rep_bl _)⟩
  | _ => cases h
theorem boot_all' : bootBuiltins "all" = some (.builtin "all") := by first | boot_by_name | rfl | kernel_rfl
theorem boot_any' : bootBuiltins "any" = some (.builtin "any") := by first | boot_by_name | rfl | kernel_rfl
theorem boot_isi : bootBuiltins "isinstance" = some (.builtin "isinstance") := by first | boot_by_name | rfl | kernel_rfl
theorem boot_str' : bootBuiltins "str" = some (.type "str") := by first | boot_by_name | rfl | kernel_rfl
theorem boot_bool' : bootBuiltins "bool" = some (.type "bool") := by first | boot_by_name | rfl | kernel_rfl
theorem boot_list' : bootBuiltins "list" = some (.type "list") := by first | boot_by_name | rfl | kernel_rfl
theorem boot_tuple' : bootBuiltins "tuple" = some (.type "tuple") := by first | boot_by_name | rfl | kernel_rfl
theorem je_all {ca : C Ar} (hc : X.calm = true) (hm : X.mg "all" = none) (ha : JQ X W ios e ca) (hg : Gl X "all" := by rfl) (he : starEach (e :: []) X.env = (false, eval e X.env) :: starEach [] X.env := by rfl) (hpl : (backTo pos (starEach [] X.env)).any (·.1) = false := by rfl) : JE X W ios (.Call (.Name "all" p) [e] [] pos) (c1 dAll ca) :=
  je_callB1 (cr_all hc) cd_all boot_all' hm ha hg (by decide) (by decide) he hpl
theorem je_any {ca : C Ar} (hc : X.calm = true) (hm : X.mg "any" = none) (ha : JQ X W ios e ca) (hg : Gl X "any" := by rfl) (he : starEach (e :: []) X.env = (false, eval e X.env) :: starEach [] X.env := by rfl) (hpl : (backTo pos (starEach [] X.env)).any (·.1) = false := by rfl) : JE X W ios (.Call (.Name "any" p) [e] [] pos) (c1 dAny ca) :=
  je_callB1 (cr_any hc) cd_any boot_any' hm ha hg (by decide) (by decide) he hpl
/-! ## isinstance -/
def tyD : Dt → Option String
  | .non => some "NoneType"
  | .bl _ => some "bool"
  | .int _ => some "int"
  | .str _ => some "str"
  | .tup _ => some "tuple"
  | .lst _ => some "list"
  | .dic _ _ => some "dict"
  | _ => none
/-- a class's instances, for isinstance -/
structure InsT (K : PySem.W.Frag) (C : Addr) : Prop where
  cl : Cls K C
  ha : PySem.W.findIn K (.ref C) "__class__" = some (some (.builtin "object.__class__"))
  hn : PySem.W.specialIn K (.builtin "object.__class__") "__get__" = some (some (.builtin "getset_descriptor.__get__"))
  htk : PySem.W.takesIn K (.builtin "object.__class__") = some true
  hm : PySem.W.mroIn K C (.type "object") = some true
structure IsT (K : PySem.W.Frag) (mg : Str → Option Value) (u : Value) (bs : List (String × Bool)) (cs : List (Str × Bool)) : Prop where
  ty : ∀ a b, bs.lookup a = some b → PySem.W.kitOne K (.type a) u = some b
  ob : ∀ c b C, cs.lookup c = some b → mg c = some (.ref C) → InsT K C ∧ PySem.W.kitOne K (.ref C) u = some b
def isD (bs : List (String × Bool)) (cs : List (Str × Bool)) : Dt → Option Bool
  | .obj c _ => cs.lookup c
  | d => (tyD d).bind fun t => bs.lookup t
def dIsi (bs : List (String × Bool)) (cs : List (Str × Bool)) (d : Dt) : Option Dt := (isD bs cs d).map .bl
theorem ty_of {own : Own} {H : Hp} {d : Dt} {x : V} {t : String} (r : RepPk K mg own H d x) (h : tyD d = some t) : TyX K H x (.type t) := by
  cases d with
  | non => cases h; rw [pk_non r]; exact .base .non
  | bl b => cases h; rw [pk_bl r]; exact .base (.bl _)
  | int i => cases h; rw [pk_int r]; exact .base (.int _)
  | str s => cases h; rw [pk_str r]; exact .base (.str _)
  | tup ds => cases h; obtain ⟨a, xs, rfl, _, h1, _⟩ := pk_tup r; exact .base (.tup h1)
  | lst ds => cases h; obtain ⟨a, xs, rfl, h1, _⟩ := pk_lst r; exact .base (.lst h1)
  | dic kd kvs =>
    cases h
    obtain ⟨a, rfl, h1⟩ := pk_dic r
    simp only [RepO] at h1
    rcases h1 with ⟨_, q, h1, _⟩ | ⟨_, q, h1, _⟩
    · exact .base (.dK h1)
    · exact .base (.dT h1)
  | _ => cases h
theorem cd_isi {u : Value} {c : V} {bs : List (String × Bool)} {cs : List (Str × Bool)} (T : IsT K mg u bs cs) (k : ClsV c u) : CallD K mg (fun xs H Q => ∀ x, xs = [x] → rIsi K [x, c] H Q) (dIsi bs cs) := by
  intro own H a x d Q r h q y ey
  cases ey
  unfold dIsi at h
  cases h2 : isD bs cs a with
  | none => rw [h2] at h; cases h
  | some b =>
    rw [h2] at h
    cases h
    have q' := q own H (.bl b) Ext.refl (rep_bl _)
    have other : ∀ {t}, tyD a = some t → bs.lookup t = some b → rIsi K [x, c] H Q := fun {t} h3 h4 => ⟨x, c, _, u, b, rfl, k, ty_of r h3, T.ty _ _ h4, q'⟩
    cases a with
    | obj c' fs =>
      obtain ⟨a, C, dx, q2, ex, m, h5, en, rf⟩ := pk_obj r
      obtain ⟨T1, T2⟩ := T.ob _ _ C (show cs.lookup c' = some b from h2) m
      subst ex
      exact ⟨_, c, _, u, b, rfl, k, .base (.ins h5 T1.cl T1.ha T1.hn T1.htk T1.hm), T2, q'⟩
    | scr ns => cases h2
    | non => exact other rfl h2
    | bl b => exact other rfl h2
    | int b => exact other rfl h2
    | str b => exact other rfl h2
    | tup b => exact other rfl h2
    | lst b => exact other rfl h2
    | dic b c => exact other rfl h2
theorem je_isi {ca : C Ar} {x : Str} {u : Value} {c : V} {bs : List (String × Bool)} {cs : List (Str × Bool)} {q : Pos} (T : IsT X.K X.mg u bs cs) (k : ClsV c u) (hx : PE X (.Name x q) (tC c)) (hm : X.mg "isinstance" = none) (ha : JQ X W ios e ca) (hg : Gl X "isinstance" := by rfl)
    (he : starEach (e :: [.Name x q]) X.env = (false, eval e X.env) :: starEach [.Name x q] X.env := by rfl) (hpl : (backTo pos (starEach [.Name x q] X.env)).any (·.1) = false := by rfl) : JE X W ios (.Call (.Name "isinstance" p) [e, .Name x q] [] pos) (c1 (dIsi bs cs) ca) :=
  pe_imp (pe_callB call_isi hg hm boot_isi (pa_cons ha (pa_cons hx pa_nil) he) (by decide) (by decide) he hpl) fun σ H Q h => by
    have h2 := post1 (cd_isi T k) h
    obtain ⟨F, own, ρ, hp, he', po⟩ := h2
    refine ⟨F, own, ρ, hp, he', ?_⟩
    have mono : ∀ {r : Res Ar} {Q1 Q2 : V → Hp → Prop}, PostR X.K X.mg W F own σ H (repQ X.K X.mg σ) r Q1 → (∀ v H', Q1 v H' → Q2 v H') → PostR X.K X.mg W F own σ H (repQ X.K X.mg σ) r Q2 := fun {r Q1 Q2} p i => by
      cases r with
      | ok a ρ' => exact fun own' b H' g e r => i _ _ (p own' b H' g e r)
      | exc x ρ' => exact p
      | stuck => exact p
    exact mono po fun v H' hv => hv v rfl
/-- isinstance(e, T), T a built-in type -/
theorem je_isiT {ca : C Ar} {x : Str} {n : String} {bs : List (String × Bool)} {cs : List (Str × Bool)} {q : Pos} (T : IsT X.K X.mg (.type n) bs cs) (hv : bootBuiltins x = some (.type n)) (hmx : X.mg x = none) (hm : X.mg "isinstance" = none) (ha : JQ X W ios e ca) (hgx : Gl X x := by rfl) (hn : x ≠ "__name__" := by decide) (hd : (x == ("__debug__" : Str)) = false := by decide) (hg : Gl X "isinstance" := by rfl)
    (he : starEach (e :: [.Name x q]) X.env = (false, eval e X.env) :: starEach [.Name x q] X.env := by rfl) (hpl : (backTo pos (starEach [.Name x q] X.env)).any (·.1) = false := by rfl) : JE X W ios (.Call (.Name "isinstance" p) [e, .Name x q] [] pos) (c1 (dIsi bs cs) ca) :=
  je_isi T (.ty n) (pe_bltn hgx hmx hv rfl hn hd) hm ha hg he hpl
/-- .. C an own class -/
theorem je_isiC {ca : C Ar} {x : Str} {C : Addr} {bs : List (String × Bool)} {cs : List (Str × Bool)} {q : Pos} (T : IsT X.K X.mg (.ref C) bs cs) (hmx : X.mg x = some (.ref C)) (hm : X.mg "isinstance" = none) (ha : JQ X W ios e ca) (hgx : Gl X x := by rfl) (hd : (x == ("__debug__" : Str)) = false := by decide) (hg : Gl X "isinstance" := by rfl)
    (he : starEach (e :: [.Name x q]) X.env = (false, eval e X.env) :: starEach [.Name x q] X.env := by rfl) (hpl : (backTo pos (starEach [.Name x q] X.env)).any (·.1) = false := by rfl) : JE X W ios (.Call (.Name "isinstance" p) [e, .Name x q] [] pos) (c1 (dIsi bs cs) ca) :=
  je_isi T (.own C) (pe_glob hgx hmx rfl hd) hm ha hg he hpl
end
end DL
end
section
set_option Elab.async false
set_option linter.all false
set_option maxRecDepth 100000
set_option maxHeartbeats 4000000
namespace DL
open PySem PySem.Spec PyProof.Rows L2
section
variable {X : Cx} {W : WX} {ios : List Nat} {e a b o : Expr} {es : List Expr} {pos p apos cpos : Pos} {K : PySem.W.Frag} {mg : Str → Option Value}
/-! ## len(set(text)) -/
def ded (σ : List Nat) (v : Nat) : List Nat := if v ∈ σ then σ else σ ++ [v]
def dLenSet : Dt → Option Dt
  | .str s => if s.length + 1 < scanBound then some (.int (s.foldl ded []).length) else none
  | _ => none
theorem ded_eq : ded = DLX.ST.ded := by funext a b; rfl
theorem je_lenSet {c : C Dt} {p2 q : Pos} (hc : X.calm = true) (hm : X.mg "len" = none) (hm2 : X.mg "set" = none) (ha : JE X W ios a c) (hg : Gl X "len" := by rfl) (hg2 : Gl X "set" := by rfl) (na : starEach [a] X.env = (false, eval a X.env) :: starEach [] X.env := by rfl) :
    JE X W ios (.Call (.Name "len" p) [.Call (.Name "set" p2) [a] [] q] [] pos) (bindR c fun d => lift (dLenSet d)) := pe_imp (DLX.ST.pe_lenSetS hc hg hm hg2 hm2 ha na) fun σ H Q ⟨F, own, ρ, hp, he, po⟩ => by
  refine ⟨F, own, ρ, hp, he, PostR.bind anti_E po fun own1 x H1 a ρ1 g1 e1 r1 p1 => ?_⟩
  cases a with
  | str s =>
    have r2 : x = .str (mkS s) := by simpa only [repE, RepD] using r1
    have hz : (mkS s).cps.size = s.length := by simp [mkS]
    by_cases h : s.length + 1 < scanBound
    · rw [show lift (dLenSet (.str s)) ρ1 = .ok (.int (s.foldl ded []).length) ρ1 by unfold lift dLenSet; simp only [if_pos h]] at p1
      refine ⟨mkS s, r2, by rw [hz]; exact h, p1 own1 _ H1 Good.refl e1 ?_⟩
      have : (mkS s).cps.toList = s := by simp [mkS]
      rw [this, ded_eq]
      exact rep_int _
    · rw [show lift (dLenSet (.str s)) ρ1 = (.stuck : Res Dt) by unfold lift dLenSet; simp only [if_neg h]] at p1
      exact p1.elim
  | _ => exact p1.elim
/-! ## methods of texts -/
def MtD (K : PySem.W.Frag) (mg : Str → Option Value) (r : V → List V → Hp → VK → Prop) (f : List Nat → Dt → Option Dt) : Prop := ∀ own H s b y d (Q : VK), RepD K mg own H b y → f s b = some d → (∀ own' H' v, Ext own H own' H' → RepD K mg own' H' d v → Q v H') → r (.str (mkS s)) [y] H Q
def mt1 (f : List Nat → Dt → Option Dt) (co ca : C Dt) : C Dt := bindR co fun d => match d with
  | .str s => bindR ca fun b => lift (f s b)
  | _ => lift none
theorem mt_end {r : V → List V → Hp → VK → Prop} {f : List Nat → Dt → Option Dt} (hf : MtD K mg r f) {co ca : C Dt} {σ : L2.St} {H : Hp} {Q : VK} (h : cE K mg W ios (mt1 f co ca) σ H Q) : tBM K "str" r (cE K mg W ios co) (tCons (cE K mg W ios ca) tNil) σ H Q := by
  obtain ⟨F, own, ρ, hp, he, po⟩ := h
  refine ⟨F, own, ρ, hp, he, PostR.bind anti_E po fun own1 x H1 a ρ1 g1 e1 r1 p1 => ?_⟩
  cases a with
  | str s =>
    have r2 : x = .str (mkS s) := by simpa only [repE, RepD] using r1
    subst r2
    refine ⟨rfl, F, own1, ρ1, hp, e1, PostR.bind (c := ca) (k := fun b => lift (f s b)) anti_E p1 fun own2 y H2 b ρ2 g2 e2 r3 p2 => ?_⟩
    cases h2 : f s b with
    | none => rw [show lift (f s b) ρ2 = (.stuck : Res Dt) by unfold lift; rw [h2]] at p2; exact p2.elim
    | some d =>
      rw [show lift (f s b) ρ2 = .ok d ρ2 by unfold lift; rw [h2]] at p2
      exact hf own2 H2 s b y d Q r3 h2 fun own3 H3 v x3 r4 => p2 own3 v H3 x3.good (e2.ext x3) r4
  | _ => exact p1.elim
def strsOf : List Dt → Option (List (List Nat))
  | [] => some []
  | .str s :: r => (strsOf r).map (s :: ·)
  | _ => none
theorem strs_rep {own : Own} {H : Hp} : ∀ {ds : List Dt} {xs : List V} {ss : List (List Nat)}, RepL K mg own H ds xs → strsOf ds = some ss → xs = (ss.map mkS).map V.str
  | [], _, _, r, h => by simp only [RepL] at r; subst r; cases h; rfl
  | d :: ds, _, ss, r, h => by
    simp only [RepL] at r
    obtain ⟨x, q, rfl, r1, r2⟩ := r
    cases d with
    | str s =>
      simp only [strsOf] at h
      cases h2 : strsOf ds with
      | none => rw [h2] at h; cases h
      | some cs =>
        rw [h2] at h
        cases h
        simp only [RepD] at r1
        rw [strs_rep r2 h2, r1]
        rfl
    | _ => cases h
def joinD (sep : List Nat) : List (List Nat) → List Nat
  | [] => []
  | [x] => x
  | x :: y :: r => x ++ sep ++ joinD sep (y :: r)
theorem join_mk (sep : List Nat) : ∀ ss : List (List Nat), Txt.join (mkS sep) (ss.map mkS) = mkS (joinD sep ss) := fun ss => by
  show Builtin.Str.glued (mkS sep) (ss.map mkS) = _
  rw [StrLaws.glued_eq_join]
  induction ss with
  | nil => rfl
  | cons x r ih =>
    cases r with
    | nil => rfl
    | cons y r =>
      show mkS x ++ mkS sep ++ Str.join (mkS sep) ((y :: r).map mkS) = mkS (x ++ sep ++ joinD sep (y :: r))
      rw [ih, mkS_app, mkS_app]
def dJoin (s : List Nat) : Dt → Option Dt
  | .lst ds => match strsOf ds with
    | some ss => if (ss.map (·.length)).sum + ss.length * s.length ≤ 16777216 then some (.str (joinD s ss)) else none
    | none => none
  | .tup ds => match strsOf ds with
    | some ss => if (ss.map (·.length)).sum + ss.length * s.length ≤ 16777216 then some (.str (joinD s ss)) else none
    | none => none
  | _ => none
theorem lens_mk (ss : List (List Nat)) : (ss.map mkS).map (·.length) = ss.map (·.length) := by
  rw [List.map_map]
  exact List.map_congr_left fun s _ => mkS_len s
theorem md_join : MtD K mg (fun x xs H Q => ∃ a p, ∃ ys : List Str, x = .str a ∧ xs = [.ref p] ∧ (SqL K H p (ys.map V.str) ∨ SqT K H p (ys.map V.str)) ∧ (ys.map (·.length)).sum + ys.length * a.length ≤ 16777216 ∧ Q (.str (Txt.join a ys)) H) dJoin := by
  intro own H s b y d Q r h q
  have key : ∀ {ds : List Dt}, (match strsOf ds with
    | some ss => if (ss.map (·.length)).sum + ss.length * s.length ≤ 16777216 then some (.str (joinD s ss)) else none
    | none => none) = some d → ∃ ss, strsOf ds = some ss ∧ (ss.map (·.length)).sum + ss.length * s.length ≤ 16777216 ∧ d = .str (joinD s ss) := fun {ds} h => by
    cases h2 : strsOf ds with
    | none => rw [h2] at h; cases h
    | some ss =>
      rw [h2] at h
      simp only at h
      by_cases hz : (ss.map (·.length)).sum + ss.length * s.length ≤ 16777216
      · rw [if_pos hz] at h
        cases h
        exact ⟨ss, rfl, hz, rfl⟩
      · rw [if_neg hz] at h; cases h
  cases b with
  | lst ds =>
    obtain ⟨ss, h1, hz, rfl⟩ := key h
    simp only [RepD] at r
    obtain ⟨a, xs, rfl, f, h2, r2⟩ := r
    exact ⟨_, a, ss.map mkS, rfl, rfl, .inl (SqL.of (by rw [h2, strs_rep r2 h1])), by rw [lens_mk, List.length_map, mkS_len]; exact hz, by rw [join_mk]; exact q own H _ Ext.refl (rep_str _)⟩
  | tup ds =>
    obtain ⟨ss, h1, hz, rfl⟩ := key h
    simp only [RepD] at r
    obtain ⟨a, xs, rfl, f, h2, r2⟩ := r
    exact ⟨_, a, ss.map mkS, rfl, rfl, .inr (SqT.of (by rw [h2, strs_rep r2 h1])), by rw [lens_mk, List.length_map, mkS_len]; exact hz, by rw [join_mk]; exact q own H _ Ext.refl (rep_str _)⟩
  | _ => cases h
theorem je_join {co ca : C Dt} (ho : JE X W ios o co) (ha : JE X W ios e ca) (hbase : attributeBase o "join" X.env (eval o X.env) = eval o X.env := by rfl)
    (hfew : ((backTo cpos (starEach [e] X.env)).all (fun x => !x.1) && (backToKw cpos (keywordEach [] X.env)).all (fun x => x.1.isSome) && decide ([e].length + ([] : List Keyword).length + (if ([] : List Keyword).isEmpty then 0 else 1) < 30)) = true := by rfl)
    (hline : (apos.endLine == cpos.line) = true := by rfl) (hs : starEach [e] X.env = (false, eval e X.env) :: starEach [] X.env := by rfl) : JE X W ios (.Call (.Attribute o "join" apos) [e] [] cpos) (mt1 dJoin co ca) :=
  pe_imp (pe_bm PySem.F.plainAttrs_str PySem.F.slot_str_join PySem.F.type_str_join mt_join ho (pa_cons ha pa_nil hs) hbase hfew hline hs rfl) fun σ H Q h => mt_end md_join h
/-- upper -/
def upS (c : Nat) : Nat := if 97 ≤ c ∧ c ≤ 122 then c - 32 else c
def dUpper : Dt → Option Dt
  | .str s => if s.length ≤ 5592405 ∧ s.all (· < 128) = true then some (.str (s.map upS)) else none
  | _ => none
theorem upper_mk {s : List Nat} (h : s.all (· < 128) = true) : Txt.upper (mkS s) = mkS (s.map upS) := by
  rw [upper_ascii (fun c hc => by
    have : (mkS s).cps.toList = s := by simp [mkS]
    rw [this] at hc
    simpa using List.all_eq_true.mp h c hc)]
  show (⟨s.toArray.map up1⟩ : Str) = ⟨(s.map upS).toArray⟩
  congr 1
  simp only [List.map_toArray]
  rfl
theorem je_upper {co : C Dt} (ho : JE X W ios o co) (hbase : attributeBase o "upper" X.env (eval o X.env) = eval o X.env := by rfl) (hline : (apos.endLine == cpos.line) = true := by rfl) : JE X W ios (.Call (.Attribute o "upper" apos) [] [] cpos) (bindR co fun d => lift (dUpper d)) :=
  pe_imp (pe_bm0 PySem.F.plainAttrs_str PySem.F.slot_str_upper PySem.F.type_str_upper mt_upper ho hbase hline) fun σ H Q ⟨F, own, ρ, hp, he, po⟩ => by
    refine ⟨F, own, ρ, hp, he, PostR.bind anti_E po fun own1 x H1 a ρ1 g1 e1 r1 p1 => ?_⟩
    cases a with
    | str s =>
      have r2 : x = .str (mkS s) := by simpa only [repE, RepD] using r1
      subst r2
      by_cases h : s.length ≤ 5592405 ∧ s.all (· < 128) = true
      · rw [show lift (dUpper (.str s)) ρ1 = .ok (.str (s.map upS)) ρ1 by unfold lift dUpper; simp only [if_pos h]] at p1
        exact ⟨rfl, _, rfl, rfl, by rw [mkS_len]; exact h.1, by rw [upper_mk h.2]; exact p1 own1 _ H1 Good.refl e1 (rep_str _)⟩
      · rw [show lift (dUpper (.str s)) ρ1 = (.stuck : Res Dt) by unfold lift dUpper; simp only [if_neg h]] at p1
        exact p1.elim
    | _ => exact p1.elim
/-- index of one sign that is there -/
def dIndex (s : List Nat) : Dt → Option Dt
  | .str [c] => if c ∈ s then some (.int (s.idxOf c)) else none
  | _ => none
theorem idx_one {s : List Nat} {c : Nat} (h : c ∈ s) : Txt.index0 (mkS s) (mkS [c]) = some (s.idxOf c) := by
  have e1 : (mkS s).cps.toList = s := by simp [mkS]
  have at_ : ∀ i, StrLaws.At (mkS s) ⟨#[c]⟩ (mkS s).length i ↔ s[i]? = some c := fun i => by
    have := StrLaws.subAt_one (mkS s) c i
    rw [e1] at this
    exact this
  have hl : s.idxOf c < s.length := List.idxOf_lt_length_of_mem h
  have hg : s[s.idxOf c]? = some c := by rw [List.getElem?_eq_getElem hl, List.getElem_idxOf]
  show (Builtin.Str.occurrences (mkS s) ⟨#[c]⟩ 0 (mkS s).length 1).head? = _
  rcases StrLaws.occ_head (mkS s) ⟨#[c]⟩ 1 (Nat.le_refl 1) with ⟨h0, hn⟩ | ⟨i, r, h0, hi, hn⟩
  · exact absurd ((at_ _).mpr hg) (hn _)
  · rw [h0]
    show some i = _
    have hi' := (at_ i).mp hi
    obtain ⟨hil, hie⟩ := List.getElem?_eq_some_iff.mp hi'
    have le : ¬ s.idxOf c < i := fun hlt => hn _ hlt ((at_ _).mpr hg)
    have ge : s.idxOf c ≤ i := by
      rcases Nat.lt_or_ge i (s.idxOf c) with hlt | hge
      · exact absurd hie (by
          have := List.not_of_lt_findIdx (p := (· == c)) (xs := s) (i := i) hlt
          simpa using this)
      · exact hge
    congr 1
    omega
theorem je_index {co ca : C Dt} (hc : X.calm = true) (tk : Takes X W) (ho : JE X W ios o co) (ha : JE X W ios e ca) (hbase : attributeBase o "index" X.env (eval o X.env) = eval o X.env := by rfl)
    (hfew : ((backTo cpos (starEach [e] X.env)).all (fun x => !x.1) && (backToKw cpos (keywordEach [] X.env)).all (fun x => x.1.isSome) && decide ([e].length + ([] : List Keyword).length + (if ([] : List Keyword).isEmpty then 0 else 1) < 30)) = true := by rfl)
    (hline : (apos.endLine == cpos.line) = true := by rfl) (hs : starEach [e] X.env = (false, eval e X.env) :: starEach [] X.env := by rfl) : JE X W ios (.Call (.Attribute o "index" apos) [e] [] cpos) (mt1 dIndex co ca) :=
  pe_imp (pe_bmS PySem.F.plainAttrs_str PySem.F.slot_str_index PySem.F.type_str_index (mt_indexX hc tk) ho (pa_cons ha pa_nil hs) hbase hfew hline hs rfl) fun σ H Q h => by
    have md : MtD X.K X.mg (fun x xs H Q => rIndexX W σ x xs H Q) dIndex := by
      intro own H s b y d Q r h q
      cases b with
      | str t =>
        have hy : y = .str (mkS t) := by simpa only [RepD] using r
        subst hy
        match t, h with
        | [c], h =>
          have h : (if c ∈ s then some (Dt.int (s.idxOf c)) else none) = some d := h
          by_cases hm : c ∈ s
          · rw [if_pos hm] at h
            cases h
            refine ⟨_, _, rfl, rfl, fun k hk => ?_, fun hk => ?_⟩
            · rw [idx_one hm] at hk
              cases hk
              exact q own H _ Ext.refl (rep_int _)
            · rw [idx_one hm] at hk; cases hk
          · rw [if_neg hm] at h; cases h
        | [], h => cases h
        | _ :: _ :: _, h => cases h
      | _ => cases h
    have := mt_end md h
    exact this
end
end DL
end
section
set_option Elab.async false
set_option linter.all false
set_option maxRecDepth 100000
set_option maxHeartbeats 4000000
namespace DL
open PySem PySem.Spec PyProof.Rows L2
section
variable {X : Cx} {W : WX} {ios : List Nat} {e a b o value : Expr} {es : List Expr} {pos p pos' apos cpos p2 : Pos} {K : PySem.W.Frag} {mg : Str → Option Value}
/-! ## what a slot owns, changed -/
theorem Env.write {F : Fi} {own : Own} {σ : L2.St} {H : Hp} {ρ : Rho} {i : Nat} {d d' : Dt} {a : Addr} {o : HO} (e : Env K mg F own σ H ρ) (h : ρ[i]? = some (some (.o d))) (hs : σ[i]? = some (some (.ref a))) (f : own a = .mine i) (r : Fre own H own (upd H a o) → RepO K mg own (upd H a o) d' a) :
    Good own H own (upd H a o) ∧ Env K mg F own σ (upd H a o) (setR ρ i (.o d')) := by
  have fr : Fre own H own (upd H a o) := ⟨fun b u hb fb => ⟨by
    rw [upd_ne (fun z => by rw [z, f] at fb; cases fb)]; exact hb, fb⟩⟩
  have g : Good own H own (upd H a o) := ⟨fun b u hb l => ⟨by
    rw [upd_ne (fun z => by rw [z, f] at l; rcases l with l | l <;> cases l)]; exact hb, rfl⟩, fun b u hb => by
    by_cases hba : b = a
    · subst hba; exact ⟨o, upd_same⟩
    · exact ⟨u, by rw [upd_ne hba]; exact hb⟩⟩
  have hi : i < ρ.length := (List.getElem?_eq_some_iff.mp h).1
  refine ⟨g, ⟨by rw [setR, List.length_set]; exact e.len, fun j t hj => ?_, fun b j u hb hh => ?_, e.pin, fun b u hb => ?_⟩⟩
  · by_cases hij : i = j
    · subst hij
      rw [setR, List.getElem?_set_self hi] at hj
      cases hj
      exact ⟨_, hs, a, rfl, f, r fr⟩
    · rw [setR, List.getElem?_set_ne hij] at hj
      obtain ⟨y, q1, q2⟩ := e.slot j t hj
      refine ⟨y, q1, ?_⟩
      cases t with
      | v w => exact RepD.mono fr q2
      | o w =>
        obtain ⟨c, e1, fc, rc⟩ := q2
        have hc : c ≠ a := fun z => by rw [z, f] at fc; cases fc; exact hij rfl
        exact ⟨c, e1, fc, rc.mono fr fun u hu => by rw [upd_ne hc]; exact hu⟩
  · by_cases hba : b = a
    · subst hba
      obtain ⟨y, q1, q2⟩ := e.slot i _ h
      rw [hs] at q1
      cases q1
      obtain ⟨c, e1, fc, rc⟩ := q2
      cases e1
      obtain ⟨u', hu'⟩ := rc.there
      exact e.nw _ j u' hb hu'
    · rw [upd_ne hba] at hh
      exact e.nw b j u hb hh
  · obtain ⟨u', hu⟩ := e.ex b u hb
    exact g.ex b u' hu
/-- the slot's object -/
theorem Env.mineAt {F : Fi} {own : Own} {σ : L2.St} {H : Hp} {ρ : Rho} {i : Nat} {d : Dt} (e : Env K mg F own σ H ρ) (h : ρ[i]? = some (some (.o d))) : ∃ a, σ[i]? = some (some (.ref a)) ∧ own a = .mine i ∧ RepO K mg own H d a := by
  obtain ⟨y, q1, c, e1, fc, rc⟩ := e.slot i _ h
  subst e1
  exact ⟨c, q1, fc, rc⟩
theorem RepL.set {own : Own} {H : Hp} {d : Dt} {x : V} : ∀ {ds : List Dt} {xs : List V} {j : Nat}, RepL K mg own H ds xs → RepD K mg own H d x → RepL K mg own H (ds.set j d) (xs.set j x)
  | [], _, _, r, _ => by simp only [RepL] at r; subst r; simp only [List.set_nil, RepL]
  | e :: ds, _, 0, r, rd => by
    simp only [RepL] at r
    obtain ⟨y, q, rfl, r1, r2⟩ := r
    simp only [List.set_cons_zero, RepL]
    exact ⟨x, q, rfl, rd, r2⟩
  | e :: ds, _, j + 1, r, rd => by
    simp only [RepL] at r
    obtain ⟨y, q, rfl, r1, r2⟩ := r
    simp only [List.set_cons_succ, RepL]
    exact ⟨y, q.set j x, rfl, r1, RepL.set r2 rd⟩
/-- xs[k] = v, xs slot i, a list -/
def setIxS (i : Nat) (cv ck : C Dt) : S := bindS cv fun v ρ1 => match ρ1[i]? with
  | some (some (.o _)) => bindS ck (fun k ρ => match ρ[i]?, k with
    | some (some (.o (.lst ds))), .int n => (match ixN ds.length n with
      | some j => .next (setR ρ i (.o (.lst (ds.set j v))))
      | none => .stuck)
    | _, _ => .stuck) ρ1
  | _ => .stuck
theorem js_setIx {i : Nat} {x : Str} {k : Expr} {cv ck : C Dt} (hv : JE X W ios e cv) (hk : JE X W ios k ck) (hN : X.N[i]? = some x := by rfl) (hvis : Vis X.env.scope x := by first | exact Or.inl rfl | exact Or.inr (Or.inl rfl) | exact Or.inr (Or.inr rfl)) (hd : (x == ("__debug__" : Str)) = false := by decide) (hcd : (x == ("__classdict__" : Str)) = false := by decide)
    (hs : swapsWithSole [.Subscript (.Name x p2) k pos'] e pos.line X.env = pure false := by rfl) (hw : swappedStores [.Subscript (.Name x p2) k pos'] e X.env = pure none := by rfl) (h1 : (assignEach [.Subscript (.Name x p2) k pos'] X.env).map (·.2) = [assign (.Subscript (.Name x p2) k pos') X.env] := by rfl)
    (ha : ∀ v, assign (.Subscript (.Name x p2) k pos') X.env v = (do
      let ov ← holding [v] (eval (.Name x p2) X.env)
      let iv ← holding [v, ov] (eval k X.env)
      standAt pos'
      holding [v, ov, iv] (setItem ov iv v)
      release [v, ov, iv] []) := by intro _; rfl) : JS X W ios (.Assign [.Subscript (.Name x p2) k pos'] e pos) (setIxS i cv ck) :=
  ps_imp (ps_asg hv (pg_sub (pe_var hN hvis hd hcd) hk set_list ha) hs hw h1) fun D σ H ⟨F, own, ρ, hp, he, po⟩ => by
    refine ⟨F, own, ρ, hp, he, PostS.bind he po fun own1 v H1 d ρ1 g1 e1 r1 p1 => ?_⟩
    have r1 : RepD X.K X.mg own1 H1 d v := r1
    split at p1
    · rename_i d0 h0
      obtain ⟨a, q1, q2, q3⟩ := e1.mineAt h0
      refine ⟨.ref a, q1, F, own1, ρ1, hp, e1, PostS.bind e1 p1 fun own2 kv H2 kd ρ2 g2 e2 r2 p2 => ?_⟩
      split at p2
      · rename_i ds n hρ
        have r2 : RepD X.K X.mg own2 H2 (.int n) kv := r2
        split at p2
        · rename_i j hj
          obtain ⟨a', z1, z2, z3⟩ := e2.mineAt hρ
          rw [q1] at z1
          cases z1
          simp only [RepO] at z3
          obtain ⟨xs, h3, r3⟩ := z3
          simp only [RepD] at r2
          obtain ⟨g3, e3⟩ := e2.write (d' := .lst (ds.set j d)) (o := .lst (xs.set j v)) hρ q1 z2 fun fr => by
            simp only [RepO]
            exact ⟨_, upd_same, (RepL.set r3 (RepD.mono g2.fre r1)).mono fr⟩
          exact ⟨a, xs, n, j, rfl, r2, h3, by rw [r3.length]; exact hj, p2 own2 σ _ g3 e3⟩
        · exact p2.elim
      · exact p2.elim
    · exact p1.elim
/-! ## xs.append(v), xs slot i -/
def appC (i : Nat) (ca : C Dt) : C Dt := fun ρ => match ρ[i]? with
  | some (some (.o (.lst _))) => bindR ca (fun v ρ2 => match ρ2[i]? with
    | some (some (.o (.lst ds))) => if ds.length < sizeLine then .ok .non (setR ρ2 i (.o (.lst (ds ++ [v])))) else .stuck
    | _ => .stuck) ρ
  | _ => .stuck
theorem je_append {i : Nat} {x : Str} {ca : C Dt} (ha : JE X W ios e ca) (hN : X.N[i]? = some x := by rfl) (hvis : Vis X.env.scope x := by first | exact Or.inl rfl | exact Or.inr (Or.inl rfl) | exact Or.inr (Or.inr rfl)) (hd : (x == ("__debug__" : Str)) = false := by decide) (hcd : (x == ("__classdict__" : Str)) = false := by decide)
    (hbase : attributeBase (.Name x p2) "append" X.env (eval (.Name x p2) X.env) = eval (.Name x p2) X.env := by rfl)
    (hfew : ((backTo cpos (starEach [e] X.env)).all (fun x => !x.1) && (backToKw cpos (keywordEach [] X.env)).all (fun x => x.1.isSome) && decide ([e].length + ([] : List Keyword).length + (if ([] : List Keyword).isEmpty then 0 else 1) < 30)) = true := by rfl)
    (hline : (apos.endLine == cpos.line) = true := by rfl) (hs : starEach [e] X.env = (false, eval e X.env) :: starEach [] X.env := by rfl) : JE X W ios (.Call (.Attribute (.Name x p2) "append" apos) [e] [] cpos) (appC i ca) :=
  pe_imp (pe_bm PySem.F.plainAttrs_list PySem.F.slot_list_append PySem.F.type_list_append mt_append (pe_var hN hvis hd hcd) (pa_cons ha pa_nil hs) hbase hfew hline hs rfl) fun σ H Q ⟨F, own, ρ, hp, he, po⟩ => by
    unfold appC at po
    split at po
    · rename_i d0 h0
      obtain ⟨a, q1, q2, q3⟩ := he.mineAt h0
      simp only [RepO] at q3
      obtain ⟨xs0, h3, r3⟩ := q3
      refine ⟨.ref a, q1, .inl ⟨rfl, xs0, SqL.of h3⟩, F, own, ρ, hp, he, PostR.bind anti_E po fun own1 v H1 d ρ1 g1 e1 r1 p1 => ?_⟩
      have r1 : RepD X.K X.mg own1 H1 d v := r1
      split at p1
      · rename_i ds hρ
        by_cases hz : ds.length < sizeLine
        · rw [if_pos hz] at p1
          obtain ⟨a', z1, z2, z3⟩ := e1.mineAt hρ
          rw [q1] at z1
          cases z1
          simp only [RepO] at z3
          obtain ⟨xs, h4, r4⟩ := z3
          obtain ⟨g3, e3⟩ := e1.write (d' := .lst (ds ++ [d])) (o := .lst (xs ++ [v])) hρ q1 z2 fun fr => by
            simp only [RepO]
            exact ⟨_, upd_same, (RepL.app r4 (RepL.cons r1 RepL.nil)).mono fr⟩
          exact ⟨a, xs, v, rfl, rfl, h4, by rw [r4.length]; exact hz, p1 own1 _ _ g3 e3 rep_non⟩
        · rw [if_neg hz] at p1
          exact p1.elim
      · exact p1.elim
    · exact po.elim
/-! ## self.f = v, self slot i -/
def putD (f : Str) (y : Dt) : List (Str × Dt) → List (Str × Dt)
  | [] => [(f, y)]
  | p :: r => if p.1 = f then (f, y) :: r else p :: putD f y r
def fldS (cs : List Str) (i : Nat) (f : Str) (cv : C Dt) : S := bindS cv fun v ρ => match ρ[i]? with
  | some (some (.o (.obj c fs))) => if c ∈ cs ∧ fs.length < 900 then .next (setR ρ i (.o (.obj c (putD f v fs)))) else .stuck
  | _ => .stuck
theorem putD_keys {f : Str} {y : Dt} {v : V} : ∀ {fs : List (Str × Dt)} {q : List (Str × V)}, fs.map (·.1) = q.map (·.1) → (putD f y fs).map (·.1) = (putF f v q).map (·.1)
  | [], [], _ => rfl
  | [], _ :: _, e => by cases e
  | _ :: _, [], e => by cases e
  | p :: fs, (g, x) :: q, e => by
    simp only [List.map_cons, List.cons.injEq] at e
    obtain ⟨e1, e2⟩ := e
    unfold putD putF
    by_cases h : p.1 = f
    · rw [if_pos h, if_pos (by rw [← e1]; exact h)]
      simp only [List.map_cons, List.cons.injEq]
      exact ⟨by rw [← e1, h], e2⟩
    · rw [if_neg h, if_neg (by rw [← e1]; exact h)]
      simp only [List.map_cons, List.cons.injEq]
      exact ⟨e1, putD_keys e2⟩
theorem putD_rep {own : Own} {H : Hp} {f : Str} {y : Dt} {v : V} (ry : RepD K mg own H y v) : ∀ {fs : List (Str × Dt)} {q : List (Str × V)}, fs.map (·.1) = q.map (·.1) → RepF K mg own H fs (q.map (·.2)) → RepF K mg own H (putD f y fs) ((putF f v q).map (·.2))
  | [], [], _, _ => by
    unfold putD putF
    simp only [List.map_cons, List.map_nil, RepF]
    exact ⟨v, [], rfl, ry, rfl⟩
  | [], _ :: _, e, _ => by cases e
  | _ :: _, [], e, _ => by cases e
  | p :: fs, (g, x) :: q, e, r => by
    simp only [List.map_cons, List.cons.injEq] at e
    obtain ⟨e1, e2⟩ := e
    simp only [List.map_cons, RepF] at r
    obtain ⟨x', q', e3, r1, r2⟩ := r
    injection e3 with e4 e5
    subst e4 e5
    unfold putD putF
    by_cases h : p.1 = f
    · rw [if_pos h, if_pos (by rw [← e1]; exact h)]
      simp only [List.map_cons, RepF]
      exact ⟨v, _, rfl, ry, r2⟩
    · rw [if_neg h, if_neg (by rw [← e1]; exact h)]
      simp only [List.map_cons, RepF]
      exact ⟨x, _, rfl, r1, putD_rep ry e2 r2⟩
theorem js_fld {cs : List Str} {i : Nat} {x f : Str} {cv : C Dt} (ok : FldOk X.K X.mg cs f) (hv : JE X W ios value cv) (hN : X.N[i]? = some x := by rfl) (hvis : Vis X.env.scope x := by first | exact Or.inl rfl | exact Or.inr (Or.inl rfl) | exact Or.inr (Or.inr rfl)) (hd : (x == ("__debug__" : Str)) = false := by decide) (hcd : (x == ("__classdict__" : Str)) = false := by decide)
    (hs : swapsWith value (some (.Attribute (.Name x p2) f pos')) pos.line X.env = pure false := by rfl) : JS X W ios (.Assign [.Attribute (.Name x p2) f pos'] value pos) (fldS cs i f cv) :=
  ps_imp (ps_fld (pe_var hN hvis hd hcd) hv hs) fun D σ H ⟨F, own, ρ, hp, he, po⟩ => by
    refine ⟨F, own, ρ, hp, he, PostS.bind he po fun own1 v H1 d ρ1 g1 e1 r1 p1 => ?_⟩
    have r1 : RepD X.K X.mg own1 H1 d v := r1
    split at p1
    · rename_i c fs h0
      by_cases hc : c ∈ cs ∧ fs.length < 900
      · rw [if_pos hc] at p1
        obtain ⟨a, q1, q2, q3⟩ := e1.mineAt h0
        have q3' := q3
        simp only [RepO] at q3
        obtain ⟨C, dx, q, m, h3, en, rf⟩ := q3
        obtain ⟨o1, o2⟩ := ok c C hc.1 m
        obtain ⟨g3, e3⟩ := e1.write (d' := .obj c (putD f d fs)) (o := .ins C dx (putF f v q)) h0 q1 q2 fun fr => by
          simp only [RepO]
          exact ⟨C, dx, _, m, upd_same, putD_keys en, (putD_rep r1 en rf).mono fr⟩
        have hl : q.length = fs.length := by
          have := congrArg List.length en
          simpa using this.symm
        exact ⟨.ref a, q1, a, C, dx, q, rfl, h3, o1, o2, by omega, p1 own1 σ _ g3 e3⟩
      · rw [if_neg hc] at p1
        exact p1.elim
    · exact p1.elim
end
end DL
end
section
set_option Elab.async false
set_option linter.all false
set_option maxRecDepth 100000
set_option maxHeartbeats 4000000
namespace L2
open PySem PySem.Spec PyProof.Rows
section
variable {X : Cx} {CX : CXT} {k : Nat} {f C : Addr} {fd : FuncData} {ps : List Str} {sp : Sp} {E : St → XK} {x : Str} {p pos : Pos} {e : Expr} {es : List Expr} {t : TA}
def tMakeSD (C : Addr) (sp : Sp) (E : St → XK) (t : TA) : TE := fun σ H Q => t σ H fun vs H1 => ∀ x dx, H1 x = none → H1 dx = none → dx ≠ x → sp (.ref x :: vs) (upd (upd H1 dx (.own x)) x (.ins C dx [])) (fun v H2 => v = .non ∧ Q (.ref x) H2) (E σ)
/-- C(..): the exceptions of __init__ told at the slots -/
theorem make_SD {pins : List (Addr × Obj)} {σ : St} {H : Hp} {s : Shared} {Q : VK} {us : List Value} {vs : List V} (M : Mk X.K C f) (F : FnOk X.prog X.w X.K X.mg X.base CX k f fd ps sp) (hr : Room (k + 1) X.A) (hb : Binds X.K fd ps []) (hx : PassesAt CX X σ (E σ))
    (I : Inv X pins σ H s) (r : Vals vs us) (h : ∀ x dx, H x = none → H dx = none → dx ≠ x → sp (.ref x :: vs) (upd (upd H dx (.own x)) x (.ins C dx [])) (fun v H2 => v = .non ∧ Q (.ref x) H2) (E σ)) :
    wpAny (model X.prog X.w) X.A (call (.ref C) us) (EP X pins σ Q) X.xe s := by
  have q0 := h (s.heap.objs.size + 1) s.heap.objs.size (I.hok.fresh (Nat.le_succ _)) (I.hok.fresh (Nat.le_refl _)) (Nat.ne_of_lt (Nat.lt_succ_self _))
  have J := Inv.made (C := C) I
  have r2 : Vals (V.ref (s.heap.objs.size + 1) :: vs) (Value.ref (s.heap.objs.size + 1) :: us) := .cons rfl r
  have hl : (Value.ref (s.heap.objs.size + 1) :: us).length = ps.length := by
    rw [← r2.length]
    exact F.len _ _ _ _ q0
  have b := hb _ (Value.ref (s.heap.objs.size + 1) :: us) J.kIn (by rw [List.append_nil]; exact hl)
  rw [List.append_nil] at b
  refine wpAny_call (make_map (f := f) I.kIn M.makes M.init (beq_iff_eq.mp M.fn) (codeAny_mono (F.run _ X.stack _ _ ⟨Value.ref (s.heap.objs.size + 1) :: us, []⟩ (Value.ref (s.heap.objs.size + 1) :: us) _ _ (E σ) (hr.make C us []) (J.env0.make C us []) b r2 q0) fun r s' z => ?_))
  cases r with
  | error e => exact hx pins _ _ e s' J z
  | ok fl =>
    cases fl with
    | ret u =>
      obtain ⟨v, H', J3, rv, ev, q3⟩ := J.after z
      subst ev
      exact ⟨rv, ⟨V.ref (s.heap.objs.size + 1), H', J3, rfl, q3⟩⟩
    | next => exact False.elim z
    | brk => exact False.elim z
    | cont => exact False.elim z
theorem pe_makeSD (M : Mk X.K C f) (F : FnOk X.prog X.w X.K X.mg X.base CX k f fd ps sp) (hr : Room (k + 1) X.A) (hg : Gl X x) (hm : X.mg x = some (.ref C)) (hb : Binds X.K fd ps []) (hx : ∀ σ, PassesAt CX X σ (E σ))
    (ha : PA X (e :: es) t) (hdb : (x == ("__debug__" : Str)) = false := by decide) (he : starEach (e :: es) X.env = (false, eval e X.env) :: starEach es X.env := by rfl) (hpl : (backTo pos (starEach es X.env)).any (·.1) = false := by rfl) :
    PE X (.Call (.Name x p) (e :: es) [] pos) (tMakeSD C sp E t) := ⟨fun pins s σ H Q I h => wpAny_Call_Name_kw (ld_glob I hg hm (PySem.W.callWith_K (h₀ := X.base) I.ok.mod.kin M.kp (thn (ha.run pos pins s σ H _ I h) fun us s1 ⟨vs, H1, I1, r, q⟩ => ⟨I1.kIn, make_SD M F hr hb (hx σ) I1 r q⟩) he hpl) hdb)⟩
end
end L2
namespace DL
open PySem PySem.Spec PyProof.Rows L2
section
variable {X : Cx} {W : WX} {ios : List Nat} {e : Expr} {es : List Expr} {pos p : Pos} {K : PySem.W.Frag} {mg : Str → Option Value}
/-- a class whose __init__ does m, its n arguments, self the first, owned -/
structure Dk (P : Program) (w : World) (K : PySem.W.Frag) (mg : Str → Option Value) (base : Heap) (c : Str) (k n : Nat) (m : Fn) : Prop where
  ex : ∃ (C f : Addr) (fd : FuncData) (ps : List Str), mg c = some (.ref C) ∧ Mk K C f ∧ FnOk P w K mg base (L2.CX P w) k f fd ps (spD K mg n [0] m) ∧ Binds K fd ps []
/-- .. a new instance -/
def makeR (c : Str) (n : Nat) (m : Fn) (ds : List Dt) : C Tr := fun ρ => if ds.length + 1 = n then match m (.o (.obj c []) :: ds.map .v) with
  | .ret (.v .non) (some t :: _) => .ok t ρ
  | .exc x _ => .exc x ρ
  | _ => .stuck
 else .stuck
def cMake (c : Str) (n : Nat) (m : Fn) (ca : C (List Dt)) : C Tr := bindR ca fun ds => makeR c n m ds
theorem make_sp {F : Fi} {own : Own} {σ : L2.St} {H : Hp} {ρ : Rho} {c : Str} {C x dx : Addr} {n : Nat} {m : Fn} {ds : List Dt} {vs : List V} {Q : VK} (hC : mg c = some (.ref C)) (he : Env K mg F own σ H ρ) (r : RepL K mg own H ds vs) (hx : H x = none) (hd : H dx = none) (hne : dx ≠ x)
    (po : PostR K mg W F own σ H (repF K mg) (makeR c n m ds ρ) Q) : spD K mg n [0] m (.ref x :: vs) (upd (upd H dx (.own x)) x (.ins C dx [])) (fun v H2 => v = .non ∧ Q (.ref x) H2) (fun cls d H => W cls d σ H) := by
  unfold makeR at po
  by_cases hl : ds.length + 1 = n
  case neg => rw [if_neg hl] at po; exact po.elim
  rw [if_pos hl] at po
  let H2 : Hp := upd (upd H dx (.own x)) x (.ins C dx [])
  -- the callee's labels
  let ow : Own := fun b => if b = x then .mine 0 else if b = dx then .other else match own b with | .free => .free | _ => .other
  have nx : ∀ {b : Addr} {o : HO}, H b = some o → b ≠ x := fun h z => by rw [z, hx] at h; cases h
  have nd : ∀ {b : Addr} {o : HO}, H b = some o → b ≠ dx := fun h z => by rw [z, hd] at h; cases h
  have keep : ∀ b o, H b = some o → H2 b = some o := fun b o h => by
    show upd (upd H dx (.own x)) x (.ins C dx []) b = some o
    rw [upd_ne (nx h), upd_ne (nd h)]
    exact h
  have owl : ∀ b o, H b = some o → ow b = (match own b with | .free => .free | _ => .other) := fun b o h => by
    show (if b = x then _ else if b = dx then _ else _) = _
    rw [if_neg (nx h), if_neg (nd h)]
  have fr : Fre own H ow H2 := ⟨fun b o h f => ⟨keep b o h, by rw [owl b o h, f]⟩⟩
  refine ⟨ow, .o (.obj c []) :: ds.map .v, ⟨by rw [List.length_cons, r.length]; exact hl, by rw [List.length_cons, List.length_map]; exact hl, fun i t hi => ?_, fun b i o hb ho => ?_, fun i hi => ?_⟩, ?_⟩
  · cases i with
    | zero =>
      cases hi
      refine ⟨.ref x, rfl, x, rfl, if_pos rfl, ?_⟩
      simp only [RepO]
      exact ⟨C, dx, [], hC, upd_same, rfl, by simp only [List.map_nil, RepF]⟩
    | succ i =>
      rw [List.getElem?_cons_succ, List.getElem?_map] at hi
      cases hd' : ds[i]? with
      | none => rw [hd'] at hi; cases hi
      | some d =>
        rw [hd'] at hi
        cases hi
        obtain ⟨v, hv, rv⟩ := r.get hd'
        exact ⟨v, by rw [List.getElem?_cons_succ]; exact hv, RepD.mono fr rv⟩
  · have hb' : (if b = x then Ow.mine 0 else if b = dx then .other else match own b with | .free => .free | _ => .other) = .mine i := hb
    by_cases hbx : b = x
    · rw [if_pos hbx] at hb'
      cases hb'
      exact ⟨by simp, by rw [hbx]; rfl⟩
    · rw [if_neg hbx] at hb'
      by_cases hbd : b = dx
      · rw [if_pos hbd] at hb'; cases hb'
      · rw [if_neg hbd] at hb'
        split at hb' <;> cases hb'
  · have : i = 0 := by simpa using hi
    subst this
    exact ⟨_, rfl⟩
  · -- behind the call
    have out : ∀ {own' : Own} {H' : Hp}, Good ow H2 own' H' → ∃ own2, Good own H own2 H' ∧ Env K mg F own2 σ H' ρ ∧ Fre own' H' own2 H' ∧ (own' x = .mine 0 → own2 x = .other) := fun {own' H'} g => by
      have lab : ∀ b o, H b = some o → H' b = some o ∨ ∃ i, own b = .mine i ∧ H' b = some o := fun b o hb => by
        obtain ⟨q, _⟩ := g.keep b o (keep b o hb) (by rw [owl b o hb]; cases own b <;> simp)
        exact .inl q
      have lab : ∀ b o, H b = some o → H' b = some o ∧ own' b = (match own b with | .free => Ow.free | _ => .other) := fun b o hb => by
        obtain ⟨q, q2⟩ := g.keep b o (keep b o hb) (by rw [owl b o hb]; cases own b <;> simp)
        exact ⟨q, q2.trans (owl b o hb)⟩
      have g2 : Good own H (fun b => if (H b).isNone then (if own' b = .free then .free else .other) else own b) H' := ⟨fun b o hb l => ⟨(lab b o hb).1, by simp only [hb, Option.isNone_some, Bool.false_eq_true, if_false]⟩, fun b o hb => ⟨o, (lab b o hb).1⟩⟩
      refine ⟨_, g2, ⟨he.len, fun i t hi => ?_, fun b i o hb ho => ?_, he.pin, fun b o hb => ?_⟩, ⟨fun b o hb f => ⟨hb, ?_⟩⟩, fun hm => ?_⟩
      · obtain ⟨y, q1, q2⟩ := he.slot i t hi
        refine ⟨y, q1, ?_⟩
        cases t with
        | v d => exact RepD.mono g2.fre q2
        | o d =>
          obtain ⟨a, e1, f, ro⟩ := q2
          obtain ⟨u, hu⟩ := ro.there
          exact ⟨a, e1, by simp only [hu, Option.isNone_some, Bool.false_eq_true, if_false]; exact f, ro.mono g2.fre fun u' hu' => (lab a u' hu').1⟩
      · cases hn : H b with
        | none =>
          simp only [hn, Option.isNone_none, if_true] at hb
          split at hb <;> cases hb
        | some u =>
          simp only [hn, Option.isNone_some, Bool.false_eq_true, if_false] at hb
          exact he.nw b i u hb hn
      · obtain ⟨u, hu⟩ := he.ex b o hb
        exact ⟨u, (lab b u hu).1⟩
      · cases hn : H b with
        | none => simp only [hn, Option.isNone_none, if_true, f]
        | some u =>
          simp only [hn, Option.isNone_some, Bool.false_eq_true, if_false]
          have := (lab b u hn).2
          rw [f] at this
          cases ho : own b with
          | free => rfl
          | other => rw [ho] at this; cases this
          | mine i => rw [ho] at this; cases this
      · simp only [hx, Option.isNone_none, if_true]
        rw [if_neg (by rw [hm]; intro z; cases z)]
    cases hm : m (.o (.obj c []) :: ds.map .v) with
    | stuck => rw [hm] at po; exact po.elim
    | exc z q =>
      rw [hm] at po
      intro own' cls dd H' g bk rx
      obtain ⟨own2, g2, e2, f2, _⟩ := out g
      exact po own2 cls dd H' g2 e2 (rx.mono f2)
    | ret t q =>
      rw [hm] at po
      intro own' v H' g bk rt
      obtain ⟨own2, g2, e2, f2, ho⟩ := out g
      split at po
      · rename_i t0 _ e0
        injection e0 with e1 e3
        subst e1 e3
        have hv : v = .non := by
          have : RepD K mg own' H' .non v := rt
          simpa only [RepD] using this
        refine ⟨hv, po own2 (.ref x) H' g2 e2 ?_⟩
        obtain ⟨y, q1, q2⟩ := bk 0 (by simp) t0 rfl
        have : y = .ref x := (Option.some.inj q1).symm
        subst this
        cases t0 with
        | v d => exact RepD.mono f2 q2
        | o d =>
          obtain ⟨a, e4, f, ro⟩ := q2
          cases e4
          exact ⟨x, rfl, hx, ho f, ro.mono f2 fun _ h => h⟩
      · rename_i e0
        cases e0
      · exact po.elim
theorem jf_make {c : Str} {k n : Nat} {m : Fn} {ca : C (List Dt)} (D : Dk X.prog X.w X.K X.mg X.base c k n m) (hr : Room (k + 1) X.A) (tk : Takes X W) (ha : JL X W ios (e :: es) ca) (hg : Gl X c := by rfl) (hdb : (c == ("__debug__" : Str)) = false := by decide)
    (he : starEach (e :: es) X.env = (false, eval e X.env) :: starEach es X.env := by rfl) (hpl : (backTo pos (starEach es X.env)).any (·.1) = false := by rfl) : JF X W ios (.Call (.Name c p) (e :: es) [] pos) (cMake c n m ca) := by
  obtain ⟨C, f, fd, ps, hC, M, F, hb⟩ := D.ex
  exact pe_imp (pe_makeSD (E := fun σ => WE W σ) M F hr hg hC hb (fun σ => passAt tk σ) ha hdb he hpl) fun σ H Q ⟨F1, own, ρ, hp, he', po⟩ =>
    ⟨F1, own, ρ, hp, he', PostR.bind anti_F po fun own1 vs H1 ds ρ1 g1 e1 r1 p1 => fun x dx hx hd hne => make_sp hC e1 r1 hx hd hne p1⟩
end
end DL
end
section
set_option Elab.async false
set_option linter.all false
set_option maxRecDepth 100000
set_option maxHeartbeats 4000000
/-! enumerate(text) -/
namespace L2
open PySem PySem.Spec PyProof.Rows
/-- a text's signs in new pairs -/
def Itse (z : Str) : It :=
  ⟨fun i _ => i < z.cps.size, fun i H v H' => ∃ T c, v = .ref T ∧ H T = none ∧ z.cps[i]? = some c ∧ H' = upd H T (.tup [.int (i : Nat), .str ⟨#[c]⟩]), fun i _ => z.cps.size ≤ i⟩
theorem turn_enumS {P : Program} {w : World} {K : PySem.W.Frag} {elts : List Expr} {kk : Nat} {tpos : Pos} (z : Str) (t : Tok) (e it : Addr) :
    Turn P w K (.Tuple elts kk tpos) (Itse z) [e, it] e (fun i h => (∃ old, IsEnum h e it ((i : Nat) : Int) old) ∧ h.IsStrIter it (strIterType z) z t i ∧ e ≠ it ∧ i ≤ z.cps.size) where
  mem := by simp
  obj := fun i h st b hb => by
    obtain ⟨⟨old, he⟩, ⟨o, ho, hc, hd⟩, _⟩ := st
    have e' : b = e ∨ b = it := by simpa using hb
    rcases e' with q | q
    · rw [q]; exact ⟨_, he, fun v q => nomatch q⟩
    · rw [q]; exact ⟨o, ho, fun v q => by rw [hd] at q; cases q⟩
  keep := fun i h h' st k => by
    obtain ⟨⟨old, he⟩, ⟨o, ho, hc, hd⟩, hne, hl⟩ := st
    exact ⟨⟨old, k e (by simp) _ he⟩, ⟨o, k it (by simp) _ ho, hc, hd⟩, hne, hl⟩
  item := by
    intro X hP hw hK hc i pins s σ H E I hf st hg
    subst hP hw hK
    obtain ⟨⟨old, he⟩, hit, hne, hl⟩ := st
    have hg : i < z.cps.size := hg
    have D := PySem.Draws.text (prog := X.prog) (w := X.w) (A := X.A.in1) (by show X.A.in1.handled = none; have := I.ok.hd hc; simp [this]) it z t
    refine wpAny_pyNext_enum_itemD D he hit hg hne (by simpa using hne) fun x h' tk hx ho hit' hT hsz hk => ?_
    obtain ⟨c, u, hcx, rfl⟩ := hx
    have hel : e < s.heap.objs.size := Heap.lt_size he
    have hil : it < s.heap.objs.size := by obtain ⟨_, q, _⟩ := hit; exact Heap.lt_size q
    refine ⟨_, rfl, wpAny_letOwnedTupleGo_enum (s := { s with heap := h', toks := tk + 1 }) ho fun h'' he' sb => ?_⟩
    have hT2 : h''.get? s.heap.objs.size = some { cls := .type "tuple", data := .seq #[.int i tk, .str ⟨#[c]⟩ u] } := (sb.2 _ (Nat.ne_of_gt hel)).trans hT
    have new : ObjOk X.prog X.w (upd H s.heap.objs.size (.tup [.int (i : Nat), .str ⟨#[c]⟩])) h'' s.heap.objs.size (.tup [.int (i : Nat), .str ⟨#[c]⟩]) :=
      ⟨by show 2 ≤ sizeLine; decide, [.int i tk, .str ⟨#[c]⟩ u], .cons ⟨_, rfl⟩ (.cons ⟨_, rfl⟩ .nil), ⟨_, hT2, rfl, _, rfl⟩⟩
    have I1 : Inv X pins σ (upd H s.heap.objs.size (.tup [.int (i : Nat), .str ⟨#[c]⟩])) { s with heap := h'', toks := tk + 1 } :=
      I.turnedNew (ch := [e, it]) (fun b ob hb q => (sb.2 b (fun y => hb (by simp [y]))).trans (hk b ob (fun y => hb (by simp [y])) (fun y => hb (by simp [y])) q)) hf (Nat.le_refl _) new
    refine ⟨.ref s.heap.objs.size, _, I1, rfl, ⟨_, c, rfl, I.hok.fresh (Nat.le_refl _), hcx, rfl⟩, ⟨⟨.str ⟨#[c]⟩ u, ?_⟩, ?_, hne, hg⟩, fun b hb => ?_⟩
    · have e1 : ((i + 1 : Nat) : Int) = (i : Int) + 1 := by omega
      rw [e1]; exact he'
    · obtain ⟨o, q1, q2, q3⟩ := hit'
      exact ⟨o, (sb.2 it (Ne.symm hne)).trans q1, q2, q3⟩
    · have hb' : b < s.heap.objs.size := by
        have e' : b = e ∨ b = it := by simpa using hb
        rcases e' with q | q
        · rw [q]; exact hel
        · rw [q]; exact hil
      rw [upd_ne (Nat.ne_of_lt hb')]
      exact (hf b hb).1
  done := by
    intro X hP hw hK hc i pins s σ H E I hf st hg
    subst hP hw hK
    obtain ⟨⟨old, he⟩, hit, hne, hl⟩ := st
    have hg : z.cps.size ≤ i := hg
    have hi : i = z.cps.size := Nat.le_antisymm hl hg
    subst hi
    obtain ⟨f0, f1, f2, f3, f4, f5⟩ := hf it (by simp)
    have D := PySem.Draws.text (prog := X.prog) (w := X.w) (A := X.A.in1) (by show X.A.in1.handled = none; have := I.ok.hd hc; simp [this]) it z t
    exact wpAny_pyNext_enum_endD D he hit fun h' eb => ⟨rfl, I.turned (t' := s.toks) (fun b o hb q => eb b o hb q) f0 f1 f3 f4 f5⟩
  self := fun A i s Q E st h => let ⟨⟨_, he⟩, _⟩ := st; wpAny_pyIter_enum he h
def iEnumS (ta : TA) : TI := fun σ H R => ta σ H fun vs H1 => ∃ z, vs = [.str z] ∧ R (Itse z) H1
theorem boot_enum : bootBuiltins "enumerate" = some (.type "enumerate") := by first | boot_by_name | rfl | kernel_rfl
theorem pi_enumS {X : Cx} {e : Expr} {ta : TA} {p pos tpos : Pos} {elts : List Expr} {kk : Nat} (hg : Gl X "enumerate") (hm : X.mg "enumerate" = none) (ha : PA X [e] ta) (hs : starEach [e] X.env = [(false, eval e X.env)] := by rfl) :
    PI X (.Tuple elts kk tpos) (.Call (.Name "enumerate" p) [e] [] pos) (iEnumS ta) := by
  refine ⟨fun pins s σ H R I h => ?_⟩
  refine Call_ (ld_blt I hg hm boot_enum (PyProof.Rows.callWith_type1 (thn (ha.run pos pins s σ H _ I h) fun us s1 ⟨vs, H1, I1, r1, q1⟩ => ?_) hs rfl))
  obtain ⟨z, ex, q⟩ := q1
  subst ex
  cases r1 with
  | cons r rr =>
    cases rr
    obtain ⟨t, rfl⟩ := r
    refine call_enumerate_str fun h' he hit hsz hk => wpAny_pyIter_enum he ?_
    have I2 : Inv X pins σ H1 { s1 with heap := h' } := I1.kept (t' := s1.toks) hk
    refine ⟨s1.heap.objs.size + 1, [s1.heap.objs.size + 1, s1.heap.objs.size], _, _, H1, rfl, I2, turn_enumS z t (s1.heap.objs.size + 1) s1.heap.objs.size, ⟨⟨.none, he⟩, hit, Nat.succ_ne_self _, Nat.zero_le _⟩, fun b hb => ?_, q⟩
    have e' : b = s1.heap.objs.size + 1 ∨ b = s1.heap.objs.size := by simpa using hb
    have hle : s1.heap.objs.size ≤ b := by
      rcases e' with q | q
      · rw [q]; exact Nat.le_add_right _ _
      · rw [q]; exact Nat.le_refl _
    exact I1.fpOk hle (I1.hok.fresh hle)
end L2
end
section
set_option Elab.async false
set_option linter.all false
set_option maxRecDepth 100000
set_option maxHeartbeats 4000000
namespace DL
open PySem PySem.Spec PyProof.Rows L2
section
variable {X : Cx} {W : WX} {ios : List Nat} {e a b o tg : Expr} {es : List Expr} {pos p apos tpos : Pos} {K : PySem.W.Frag} {mg : Str → Option Value}
/-! ## enumerate of a text -/
def enumI : Nat → List Dt → List Dt
  | _, [] => []
  | i, d :: r => .tup [.int (i : Nat), d] :: enumI (i + 1) r
theorem enumI_len : ∀ {ds : List Dt} {i : Nat}, (enumI i ds).length = ds.length
  | [], _ => rfl
  | d :: r, i => by unfold enumI; rw [List.length_cons, List.length_cons, enumI_len]
theorem enumI_get : ∀ {ds : List Dt} {i j : Nat} {d : Dt}, (enumI i ds)[j]? = some d → ∃ u, ds[j]? = some u ∧ d = .tup [.int ((i + j : Nat) : Int), u]
  | [], _, _, _, h => by unfold enumI at h; simp at h
  | e :: r, i, 0, d, h => by
    unfold enumI at h
    have h2 : some (Dt.tup [.int (i : Nat), e]) = some d := h
    cases h2
    exact ⟨e, rfl, rfl⟩
  | e :: r, i, j + 1, d, h => by
    unfold enumI at h
    obtain ⟨u, h1, h2⟩ := enumI_get (i := i + 1) (j := j) (by simpa using h)
    refine ⟨u, by simpa using h1, ?_⟩
    rw [h2]
    congr 3
    omega
theorem it_enumS {own : Own} {H : Hp} {s : List Nat} : ItOk K mg (Itse (mkS s)) own H (enumI 0 (s.map fun c => .str [c])) := fun own1 H1 g => by
  have hz : (mkS s).cps.size = s.length := by simp [mkS]
  refine ⟨fun i d hd => ?_, by show (mkS s).cps.size ≤ _; rw [hz, enumI_len, List.length_map]; exact Nat.le_refl _⟩
  obtain ⟨u, h1, h2⟩ := enumI_get hd
  rw [List.getElem?_map] at h1
  cases hc : s[i]? with
  | none => rw [hc] at h1; cases h1
  | some c =>
    rw [hc] at h1
    cases h1
    subst h2
    refine ⟨by show i < (mkS s).cps.size; rw [hz]; exact (List.getElem?_eq_some_iff.mp hc).1, fun y H' ⟨T, c', e1, e2, e3, e4⟩ => ?_⟩
    have : (mkS s).cps[i]? = s[i]? := by simp [mkS]
    rw [this, hc] at e3
    cases e3
    subst e1 e4
    refine ⟨setO own1 T .free, Ext.new e2 fun _ => by (intro z; cases z), ?_⟩
    simp only [RepD]
    refine ⟨T, _, rfl, setO_same, upd_same, ?_⟩
    simp only [RepL, RepD]
    exact ⟨_, _, rfl, by rw [Nat.zero_add], _, _, rfl, rfl, rfl⟩
def cEnumS (c : C Dt) : C (List Dt) := bindR c fun d => match d with
  | .str s => ret (enumI 0 (s.map fun c => .str [c]))
  | _ => lift none
theorem ji_enumS {c : C Dt} {elts : List Expr} {kk : Nat} (hm : X.mg "enumerate" = none) (h : JE X W ios a c) (hg : Gl X "enumerate" := by rfl) (hs : starEach [a] X.env = [(false, eval a X.env)] := by rfl) (hs2 : starEach [a] X.env = (false, eval a X.env) :: starEach [] X.env := by rfl) :
    JI X W ios (.Tuple elts kk tpos) (.Call (.Name "enumerate" p) [a] [] pos) (cEnumS c) :=
  pi_imp (pi_enumS hg hm (pa_cons h pa_nil hs2) hs) fun σ H R ⟨F, own, ρ, hp, he, po⟩ => ⟨F, own, ρ, hp, he, PostR.bind anti_I po fun own1 x H1 a ρ1 g1 e1 r1 p1 => by
    cases a with
    | str s =>
      have r2 : x = .str (mkS s) := by simpa only [repE, RepD] using r1
      subst r2
      exact ⟨mkS s, rfl, p1 own1 _ H1 Good.refl e1 it_enumS⟩
    | _ => exact p1.elim⟩
/-! ## a dict, one key more -/
def dput (kvs : List (Dt × Dt)) (k v : Dt) : List (Dt × Dt) := if kvs.any (fun p => sameK p.1 k) then kvs.map (fun p => if sameK p.1 k then (p.1, v) else p) else kvs ++ [(k, v)]
theorem RepP.len {own : Own} {H : Hp} : ∀ {kvs : List (Dt × Dt)} {xs : List V}, RepP K mg own H kvs xs → xs.length = kvs.length
  | [], _, r => by simp only [RepP] at r; subst r; rfl
  | p :: kvs, _, r => by
    simp only [RepP] at r
    obtain ⟨x, q, rfl, _, r2⟩ := r
    rw [List.length_cons, List.length_cons, RepP.len r2]
theorem put_map {own : Own} {H : Hp} {k v : Dt} {κ : Key} {z : V} (hk : keyOf k = some κ) (rv : RepD K mg own H v z) : ∀ {kvs : List (Dt × Dt)} {q : List (Key × V)}, (kvs.map fun p => keyOf p.1) = (q.map fun p => some p.1) → RepP K mg own H kvs (q.map (·.2)) →
    (kvs.any fun p => sameK p.1 k) = (q.any fun kv => decide (kv.1 = κ)) ∧
    ((kvs.map fun p => if sameK p.1 k then (p.1, v) else p).map fun p => keyOf p.1) = ((q.map fun kv => if kv.1 = κ then (kv.1, z) else kv).map fun p => some p.1) ∧
    RepP K mg own H (kvs.map fun p => if sameK p.1 k then (p.1, v) else p) ((q.map fun kv => if kv.1 = κ then (kv.1, z) else kv).map (·.2))
  | [], [], _, _ => ⟨rfl, rfl, by simp only [List.map_nil, RepP]⟩
  | [], _ :: _, e, _ => by cases e
  | _ :: _, [], e, _ => by cases e
  | p :: kvs, (j, x) :: q, e, r => by
    simp only [List.map_cons, List.cons.injEq] at e
    obtain ⟨e1, e2⟩ := e
    simp only [List.map_cons, RepP] at r
    obtain ⟨x', q', e3, r1, r2⟩ := r
    injection e3 with e4 e5
    subst e4 e5
    obtain ⟨i1, i2, i3⟩ := put_map hk rv e2 r2
    have hs : sameK p.1 k = decide (j = κ) := keyOf_same e1 hk
    refine ⟨by rw [List.any_cons, List.any_cons, i1, hs], ?_, ?_⟩
    · simp only [List.map_cons, List.cons.injEq]
      refine ⟨?_, i2⟩
      rw [hs]
      by_cases h : j = κ
      · rw [if_pos (decide_eq_true h), if_pos h]; exact e1
      · rw [if_neg (show ¬ decide (j = κ) = true by simpa using h), if_neg h]; exact e1
    · simp only [List.map_cons, RepP]
      rw [hs]
      by_cases h : j = κ
      · rw [if_pos (decide_eq_true h), if_pos h]
        exact ⟨_, _, rfl, rv, i3⟩
      · rw [if_neg (show ¬ decide (j = κ) = true by simpa using h), if_neg h]
        exact ⟨_, _, rfl, r1, i3⟩
theorem repP_app {own : Own} {H : Hp} {k v : Dt} {z : V} (rv : RepD K mg own H v z) : ∀ {kvs : List (Dt × Dt)} {xs : List V}, RepP K mg own H kvs xs → RepP K mg own H (kvs ++ [(k, v)]) (xs ++ [z])
  | [], _, r => by simp only [RepP] at r; subst r; simp only [List.nil_append, RepP]; exact ⟨z, [], rfl, rv, rfl⟩
  | p :: kvs, _, r => by
    simp only [RepP] at r
    obtain ⟨x, q, rfl, r1, r2⟩ := r
    simp only [List.cons_append, RepP]
    exact ⟨x, _, rfl, r1, repP_app rv r2⟩
theorem dput_rep {own : Own} {H : Hp} {k v : Dt} {κ : Key} {z : V} {kvs : List (Dt × Dt)} {q : List (Key × V)} (hk : keyOf k = some κ) (rv : RepD K mg own H v z) (e : (kvs.map fun p => keyOf p.1) = (q.map fun p => some p.1)) (r : RepP K mg own H kvs (q.map (·.2))) :
    ((dput kvs k v).map fun p => keyOf p.1) = ((putK q κ z).map fun p => some p.1) ∧ RepP K mg own H (dput kvs k v) ((putK q κ z).map (·.2)) := by
  obtain ⟨i1, i2, i3⟩ := put_map hk rv e r
  unfold dput putK
  rw [i1]
  by_cases h : (q.any fun kv => decide (kv.1 = κ)) = true
  · rw [if_pos h, if_pos h]
    exact ⟨i2, i3⟩
  · rw [if_neg h, if_neg h]
    refine ⟨?_, ?_⟩
    · rw [List.map_append, List.map_append, e]
      simp only [List.map_cons, List.map_nil, hk]
    · rw [List.map_append]
      exact repP_app rv r
/-! ## dict comprehensions -/
def dcLoop (vs : List Nat) (g : G) (ct : C Bool) (ck cv : C Dt) : List Dt → List (Dt × Dt) → C (List (Dt × Dt))
  | [], acc, ρ => .ok acc ρ
  | d :: ds, acc, ρ => match g d ρ with
    | none => .stuck
    | some ρ1 => match ct ρ1 with
      | .ok true ρ2 => match ck ρ2 with
        | .ok k ρ3 => match cv ρ3 with
          | .ok y ρ4 => if acc.length < sizeLine ∧ (keyOf k).isSome = true then dcLoop vs g ct ck cv ds (dput acc k y) (wipeR ρ4 vs) else .stuck
          | _ => .stuck
        | _ => .stuck
      | .ok false ρ2 => dcLoop vs g ct ck cv ds acc (wipeR ρ2 vs)
      | _ => .stuck
def cDc (vs : List Nat) (ci : C (List Dt)) (g : G) (ct : C Bool) (ck cv : C Dt) : C Tr := bindR ci fun ds ρ => match dcLoop vs g ct ck cv ds [] (wipeR ρ vs) with
  | .ok acc ρ' => .ok (.o (.dic 0 acc)) (backV ρ ρ' vs)
  | .exc x ρ' => .stuck
  | .stuck => .stuck
theorem dc_end {vs : List Nat} {ci : C (List Dt)} {g : G} {ct : C Bool} {ck cv : C Dt} {tg' : TG} {σ : L2.St} {H : Hp} {Q : VK} (hv : ∀ v ∈ vs, v ∉ ios) (htg : TgOk K mg ios vs g tg')
    (h : cF K mg W ios (cDc vs ci g ct ck cv) σ H Q) : tDc (cI K mg W ios ci) tg' (cB K mg W0 ios ct) (cE K mg W0 ios ck) (cE K mg W0 ios cv) vs σ H Q := by
  obtain ⟨F, own, ρ, hp, he, po⟩ := h
  have hv' : ∀ v ∈ vs, v ∉ F.pin.map (·.1) := by rw [hp]; exact hv
  refine ⟨F, own, ρ, hp, he, PostR.bind anti_F po fun own0 J H0 ds ρ0 g0 e0 it p0 => fun D hD => ?_⟩
  have hFD : F.H0 D = none := by
    cases h : F.H0 D with
    | none => rfl
    | some u =>
      obtain ⟨u', hu⟩ := e0.ex D u h
      rw [hu] at hD
      cases hD
  have x0 : Ext own0 H0 (setO own0 D .other) (upd H0 D (.dK [])) := Ext.new hD fun _ => by intro z; cases z
  let Inv' : Nat → Hp → Prop := fun i H1 => ∃ own1 ρ1 acc q, Good own0 H0 own1 H1 ∧ own1 D = .other ∧ H1 D = some (.dK q) ∧ (acc.map fun p => keyOf p.1) = (q.map fun p => some p.1) ∧ RepP K mg own1 H1 acc (q.map (·.2)) ∧ Env K mg F own1 (L2.wipe σ vs) H1 (wipeR ρ1 vs) ∧ ρ1.length = σ.length ∧
    PostR K mg W F own0 σ H0 (repF K mg) (match dcLoop vs g ct ck cv (ds.drop i) acc (wipeR ρ1 vs) with | .ok acc ρ' => (.ok (.o (.dic 0 acc)) (backV ρ0 ρ' vs) : Res Tr) | _ => .stuck) Q
  have start0 : Inv' 0 (upd H0 D (.dK [])) := by
    refine ⟨setO own0 D .other, ρ0, [], [], x0.good, setO_same, upd_same, rfl, by simp only [List.map_nil, RepP], Env.wipe hv' (e0.ext x0), e0.len.symm, ?_⟩
    rw [List.drop_zero]
    have p0' := p0
    cases hq : dcLoop vs g ct ck cv ds [] (wipeR ρ0 vs) with
    | ok acc ρ' => rw [hq] at p0'; exact p0'
    | exc x ρ' => rw [hq] at p0'; exact p0'
    | stuck => rw [hq] at p0'; exact p0'
  refine ⟨fun i m H1 => i + m = ds.length ∧ Inv' i H1, ⟨ds.length, by omega, start0⟩, fun i m H1 ⟨em, own1, ρ1, acc, q, g1, f1, h1, k1, r1, e1, l1, p1⟩ => ?_⟩
  obtain ⟨itg, its⟩ := it own1 H1 g1
  by_cases hi : i < ds.length
  · obtain ⟨go, yl⟩ := itg i ds[i] (List.getElem?_eq_getElem hi)
    rw [List.drop_eq_getElem_cons hi] at p1
    unfold dcLoop at p1
    refine .inr ⟨go, Inv' (i + 1), fun H' q => ⟨m - 1, by omega, by omega, q⟩, fun x H' hy => ?_⟩
    obtain ⟨own', x4, r4⟩ := yl x H' hy
    have f4 : own' D = .other := by rw [(x4.keep D _ h1).2]; exact f1
    have h4 : H' D = some (.dK q) := (x4.keep D _ h1).1
    have g4 := g1.trans x4.good
    refine htg x σ H' _ ⟨F, own', wipeR ρ1 vs, ds[i], hp, e1.ext x4, r4, ?_⟩
    cases hg1 : g ds[i] (wipeR ρ1 vs) with
    | none => rw [hg1] at p1; exact p1.elim
    | some ρ2 =>
      rw [hg1] at p1
      simp only at p1
      simp only
      intro own2 σ2 H2 g2 e2 hw
      have f2 : own2 D = .other := by rw [(g2.keep D _ h4 (.inr f4)).2]; exact f4
      have h2 : H2 D = some (.dK q) := (g2.keep D _ h4 (.inr f4)).1
      refine ⟨F, own2, ρ2, hp, e2, ?_⟩
      cases hct : ct ρ2 with
      | stuck => rw [hct] at p1; exact p1.elim
      | exc y ρ3 => rw [hct] at p1; exact p1.elim
      | ok b ρ3 =>
        rw [hct] at p1
        intro own3 b3 H3 g3 e3 rb
        obtain rfl : b = b3 := rb
        have f3 : own3 D = .other := by rw [(g3.keep D _ h2 (.inr f2)).2]; exact f2
        have h3 : H3 D = some (.dK q) := (g3.keep D _ h2 (.inr f2)).1
        cases b with
        | false =>
          simp only at p1
          rw [if_neg Bool.false_ne_true]
          refine ⟨own3, ρ3, acc, q, (g4.trans g2).trans g3, f3, h3, k1, r1.mono ((x4.good.trans g2).trans g3).fre, by rw [← hw]; exact Env.wipe hv' e3, ?_, p1⟩
          rw [← e3.len, ← wipe_len σ2 vs, hw, wipe_len]
        | true =>
          simp only at p1
          rw [if_pos rfl]
          refine ⟨F, own3, ρ3, hp, e3, ?_⟩
          cases hck : ck ρ3 with
          | stuck => rw [hck] at p1; exact p1.elim
          | exc y ρ4 => rw [hck] at p1; exact p1.elim
          | ok k ρ4 =>
            rw [hck] at p1
            simp only at p1
            intro own4 kv H4 g5 e4 rk
            have rk : RepD K mg own4 H4 k kv := rk
            have f5 : own4 D = .other := by rw [(g5.keep D _ h3 (.inr f3)).2]; exact f3
            have h5 : H4 D = some (.dK q) := (g5.keep D _ h3 (.inr f3)).1
            refine ⟨F, own4, ρ4, hp, e4, ?_⟩
            cases hcv : cv ρ4 with
            | stuck => rw [hcv] at p1; exact p1.elim
            | exc y ρ5 => rw [hcv] at p1; exact p1.elim
            | ok y ρ5 =>
              rw [hcv] at p1
              simp only at p1
              intro own5 yv H5 g6 e5 ry
              have f6 : own5 D = .other := by rw [(g6.keep D _ h5 (.inr f5)).2]; exact f5
              have h6 : H5 D = some (.dK q) := (g6.keep D _ h5 (.inr f5)).1
              by_cases hz : acc.length < sizeLine ∧ (keyOf k).isSome = true
              · rw [if_pos hz] at p1
                obtain ⟨κ, hκ⟩ := Option.isSome_iff_exists.mp hz.2
                have hkv : kv = kV κ := by
                  cases k with
                  | int i => cases hκ; simp only [RepD] at rk; rw [rk]; rfl
                  | str s => cases hκ; simp only [RepD] at rk; rw [rk]; rfl
                  | _ => cases hκ
                have gg : Good own1 H1 own5 H5 := (((x4.good.trans g2).trans g3).trans g5).trans g6
                have r6 := r1.mono gg.fre
                obtain ⟨k7, r7⟩ := dput_rep (K := K) (mg := mg) hκ ry k1 r6
                obtain ⟨e6, fr6⟩ := e5.other (o := .dK (putK q κ yv)) f6 (.inr ⟨_, h6⟩)
                have hq : q.length = acc.length := by
                  have := congrArg List.length k1
                  simpa using this.symm
                refine ⟨q, κ, hkv, h6, by rw [hq]; exact hz.1, own5, ρ5, dput acc k y, putK q κ yv, ⟨fun b o hb l => ?_, fun b o hb => ?_⟩, f6, upd_same, k7, r7.mono fr6, by rw [← hw]; exact Env.wipe hv' e6, ?_, p1⟩
                · have hbD : b ≠ D := fun z => by rw [z, hD] at hb; cases hb
                  rw [upd_ne hbD]
                  exact (g1.trans gg).keep b o hb l
                · have hbD : b ≠ D := fun z => by rw [z, hD] at hb; cases hb
                  rw [upd_ne hbD]
                  exact (g1.trans gg).ex b o hb
                · rw [← e5.len, ← wipe_len σ2 vs, hw, wipe_len]
              · rw [if_neg hz] at p1
                exact p1.elim
  · have hi2 : i = ds.length := by omega
    subst hi2
    rw [List.drop_length] at p1
    refine .inl ⟨its, ?_⟩
    simp only [dcLoop] at p1
    refine p1 own1 (.ref D) H1 g1 (Env.unwipe hv' l1 e1 (fun j d hd => ?_) (fun p hp' => ?_)) ⟨D, rfl, hD, f1, by simp only [RepO]; exact .inl ⟨by trivial, q, h1, k1, r1⟩⟩
    · obtain ⟨x, q1, q2⟩ := e0.slot j _ hd
      exact ⟨x, q1, RepD.mono g1.fre q2⟩
    · exact e0.pin p hp'
section
variable {kx vx iter : Expr} {ifs : List Expr} {scope : Scope} {own : List (Str × Nat)} {ci : C (List Dt)} {g : G} {ct : C Bool} {ck cv : C Dt} {tg' : TG}
theorem jf_dc (hc : X.calm = true) (hN : X.N.Nodup) (hi : JI X W ios tg iter ci) (ok : blkC X.N X.env.scope scope own = true) (hv : ∀ v ∈ own.map (·.2), v ∉ ios) (htg : TgOk X.K X.mg ios (own.map (·.2)) g tg')
    (hg : ∀ (s : Shared) (H : Hp) (C : Addr) (cl : List (Str × Addr)) (fp : List Addr), PG (X.blk s H scope (compEnvC scope cl C X.env) fp) tg tg')
    (ht : ∀ (s : Shared) (H : Hp) (C : Addr) (cl : List (Str × Addr)) (fp : List Addr), JTs (X.blk s H scope (compEnvC scope cl C X.env) fp) W0 ios ifs ct)
    (hk : ∀ (s : Shared) (H : Hp) (C : Addr) (cl : List (Str × Addr)) (fp : List Addr), JE (X.blk s H scope (compEnvC scope cl C X.env) fp) W0 ios kx ck)
    (he : ∀ (s : Shared) (H : Hp) (C : Addr) (cl : List (Str × Addr)) (fp : List Addr), JE (X.blk s H scope (compEnvC scope cl C X.env) fp) W0 ios vx cv) (hs : ∀ x, foldedSetIterable iter X.env x = pure x := by intro _; rfl) :
    JF X W ios (.DictComp kx vx [⟨tg, iter, ifs, 0⟩] scope pos) (cDc (own.map (·.2)) ci g ct ck cv) :=
  pe_imp (pe_dc hc hN hi (blkOk_by ok) hg ht hk he hs) fun σ H Q h => dc_end hv htg h
end
end
end DL
end
section
set_option Elab.async false
set_option linter.all false
set_option maxRecDepth 100000
set_option maxHeartbeats 4000000
/-! the head's facts: defs, and the __init__ of exceptions that say super() -/
namespace DLH
open PySem PySem.Spec PyProof.Rows L2 He
/-- an exception's __init__ -/
structure XiD where
  x : Str
  qual : Str
  params : Arguments
  body : List Stmt
  scope : Scope
  ps : List Str
abbrev FnI : Type := Option (Str × Str × Arguments × FuncBody × Scope × Addr × List Str × Value × Addr)
def fnI (K : PySem.W.Frag) (x : Str) : FnI := match K.lookup (ma K (ga K x) "__init__") with
  | some ⟨_, _, .func fd, _⟩ => some (fd.name, fd.qualname, fd.params, fd.body, fd.scope, fd.globals, fd.closure.map (·.1), fd.defaults, fd.builtins)
  | _ => none
def XiD.val (d : XiD) : FnI := some ("__init__", d.qual, d.params, .stmts d.body, d.scope, mainGlobals, ["__class__"], .none, builtinsNs)
/-- the class's object, as an exception's -/
def clsB (K : PySem.W.Frag) (C : Addr) : Bool := match K.lookup C with
  | some ⟨.type "type", _, .cls cd, sl⟩ => (match cd.mro, sl.toList with
    | .ref C' :: bm, [_, _, _, _, some (.builtin n), _] => decide (C' = C) && (decide (n = "ValueError.__new__") && (!cd.hasDel && (cd.hasDict && PySem.HandSPX.refsVE bm)))
    | _, _ => false)
  | _ => false
def closB (P : Program) (K : PySem.W.Frag) (C fI : Addr) (q : Str) : Bool := match K.lookup fI with
  | some ⟨_, _, .func fd, _⟩ => PySem.W.codeIn K fd.code q && ((match fd.closure with
    | [(_, cc)] => (match K.lookup cc with
      | some ⟨_, _, .cell (some (.ref D)), _⟩ => decide (D = C)
      | _ => false)
    | _ => false) && (match fd.code with
    | .ref cda => (match K.lookup cda with
      | some ⟨_, _, .fields vs, _⟩ => (match (vs[2]? : Option Value) with
        | some (Value.str file _) => ((P.main.file : Str) == file)
        | _ => false)
      | _ => false)
    | _ => false))
  | _ => false
def XiD.ok (P : Program) (K : PySem.W.Frag) (d : XiD) : Bool :=
  let C := ga K d.x
  let fI := ma K C "__init__"
  eqO (PySem.W.nsIn K mainGlobals d.x) (some (some (.ref C))) && (clsB K C && (eqO (PySem.W.findIn K (.ref C) "__setattr__") (some (some (.builtin "object.__setattr__"))) &&
  (decide (PySem.W.subIn K (.ref C) (.type "BaseException") = some true) && (decide (PySem.W.typeIn K (.ref C) = some (.type "type")) && (PySem.W.keepIn K (.ref C) &&
  (eqO (PySem.W.findIn K (.ref C) "__init__") (some (some (.ref fI))) && (decide (PySem.W.typeIn K (.ref fI) = some (.type "function")) && (d.ps.all (fun p => eqO (PySem.W.findIn K (.ref C) p) (some none)) &&
  (eqO (PySem.W.ks_superIn K C C "__init__") (some (some (.builtin "ValueError.__init__"))) && (eqO (PySem.W.nsIn K cStatics "thirdparty.any") (some none) && (decide (PySem.W.subIn K (.ref C) (.type "ValueError") = some true) &&
  (decide (PySem.W.mroIn K C (.ref C) = some true) && closB P K C fI d.qual))))))))))))
theorem clsB_ok {K : PySem.W.Frag} {C : Addr} (h : clsB K C = true) : ∃ nm q N bs bm sn sub ab col dd k0 k1 k2 k3 k5, K.lookup C = some (excClassObj nm q C N bs bm true sn sub ab col dd k0 k1 k2 k3 k5 "ValueError.__new__") ∧ PySem.HandSPX.refsVE bm = true := by
  unfold clsB at h
  split at h
  · rename_i dd cd sl ho
    split at h
    · rename_i C' bm k0 k1 k2 k3 n k5 hm hs
      obtain ⟨h1, h⟩ := ba h
      obtain ⟨h2, h⟩ := ba h
      obtain ⟨h3, h⟩ := ba h
      obtain ⟨h4, h5⟩ := ba h
      have e1 : C' = C := of_decide_eq_true h1
      have e2 : n = "ValueError.__new__" := of_decide_eq_true h2
      subst e1 e2
      obtain ⟨nm, bs, mro, ns, qn, hd, sn, sb, ab, col, del⟩ := cd
      simp only at hm h3 h4
      subst hm h4
      have h3' : del = false := by simpa using h3
      subst h3'
      have es : sl = #[k0, k1, k2, k3, some (.builtin "ValueError.__new__"), k5] := by
        apply Array.toList_inj.mp
        exact hs
      subst es
      exact ⟨nm, qn, ns, bs, bm, sn, sb, ab, col, dd, k0, k1, k2, k3, k5, ho, h5⟩
    · cases h
  · cases h
theorem closB_ok {P : Program} {K : PySem.W.Frag} {C fI : Addr} {q : Str} (h : closB P K C fI q = true) {oc : Value} {od : Option Addr} {fd : FuncData} {osl : Array (Option Value)} (lk : K.lookup fI = some ⟨oc, od, .func fd, osl⟩) :
    ∃ cda n cc ccl cdd vs ccs file tf cl cld csl, fd.code = .ref cda ∧ PySem.W.codeIn K (.ref cda) q = true ∧ fd.closure = [(n, cc)] ∧ K.lookup cc = some ⟨cl, cld, .cell (some (.ref C)), csl⟩ ∧ K.lookup cda = some ⟨ccl, cdd, .fields vs, ccs⟩ ∧ (vs[2]? : Option Value) = some (.str file tf) ∧ ((P.main.file : Str) == file) = true := by
  unfold closB at h
  rw [lk] at h
  simp only at h
  obtain ⟨h1, h⟩ := ba h
  obtain ⟨h2, h3⟩ := ba h
  split at h2
  case h_2 => cases h2
  rename_i n cc hcl
  split at h2
  case h_2 => cases h2
  rename_i cl cld D csl hcc
  have eD : D = C := of_decide_eq_true h2
  subst eD
  split at h3
  case h_2 => cases h3
  rename_i cda hcd
  split at h3
  case h_2 => cases h3
  rename_i ccl cdd vs ccs hco
  split at h3
  case h_2 => cases h3
  rename_i file tf hv
  rw [hcd] at h1
  exact ⟨cda, n, cc, ccl, cdd, vs, ccs, file, tf, cl, cld, csl, hcd, h1, hcl, hcc, hco, hv, h3⟩
/-- the text of such an __init__ -/
structure XiS (d : XiD) : Prop where
  sh : ∃ (p0 p1 p2 p3 p4 : Pos) (es : List Expr) (as : List Stmt) (ar : Arg), d.body = .Expr (.Call (.Attribute (.Call (.Name "super" p0) [] [] p1) "__init__" p2) es [] p3) p4 :: as ∧ DLX.XI.ArgT d.ps es ∧ es ≠ [] ∧ DLX.XI.AsgT d.ps as ∧
    (d.params.posonlyargs ++ d.params.args).head? = some ar ∧ ar.arg = "self" ∧
    (∀ (kV doc pm : Value) (an : Option Addr) (cdv ct : Value) (cc : Addr) (self : Value) (us : List Value), us.length = d.ps.length → bindArgs (PySem.W.ksFn "__init__" d.qual d.params d.body d.scope .none kV doc pm an cdv ct cc) ⟨self :: us, []⟩ = pure ((("self" : Str), self) :: d.ps.zip us)) ∧
    d.scope.kind = .function ∧ d.scope.isCoroutine = false ∧ d.scope.isGenerator = false ∧ (∀ y ∈ d.scope.names, y.2 ≠ .cell) ∧ d.scope.names.lookup ("self" : Str) = some .local ∧ (∀ p ∈ d.ps, d.scope.names.lookup p = some .local) ∧
    d.scope.names.lookup ("super" : Str) = some .globalImplicit ∧ d.scope.names.lookup ("__class__" : Str) = some .free ∧ (∀ env : Env, ∃ pl : Sem Bool, eval (.Call (.Attribute (.Call (.Name "super" p0) [] [] p1) "__init__" p2) es [] p3) env = (do
      let ov ← attributeBase (.Call (.Name "super" p0) [] [] p1) "__init__" env (eval (.Call (.Name "super" p0) [] [] p1) env)
      standAt p2.atName
      let (f, first) ← holding [ov] (getMethod ov "__init__" pl)
      callWith p3 f first (backTo p3 (starEach es env)) [])) ∧ d.ps.Nodup ∧ ("self" : Str) ∉ d.ps ∧ d.ps.length ≤ 900
theorem xi_ok {P : Program} {K : PySem.W.Frag} {h : Heap} {mg : Str → Option Value} {d : XiD} (X : K.In h) (G : h.Ns mainGlobals mg) (e : fnI K d.x = d.val) (c : d.ok P K = true) (S : XiS d) (htop : (P.main.scope.names.lookup ("super" : Str)).isSome = false) (hsup : mg "super" = none) : DL.Xk P K mg d.x d.ps := by
  unfold XiD.ok at c
  simp only at c
  obtain ⟨c0, c⟩ := ba c
  obtain ⟨c1, c⟩ := ba c
  obtain ⟨c2, c⟩ := ba c
  obtain ⟨c3, c⟩ := ba c
  obtain ⟨c4, c⟩ := ba c
  obtain ⟨c5, c⟩ := ba c
  obtain ⟨c6, c⟩ := ba c
  obtain ⟨c7, c⟩ := ba c
  obtain ⟨c8, c⟩ := ba c
  obtain ⟨c9, c⟩ := ba c
  obtain ⟨c10, c⟩ := ba c
  obtain ⟨c11, c⟩ := ba c
  obtain ⟨c12, c13⟩ := ba c
  obtain ⟨p0, p1, p2, p3, p4, es, as, ar, s1, s2, s3, s4, s5, s6, s7, s8, s9, s10, s11, s12, s13, s14, s15, s16, s17, s18, s19⟩ := S.sh
  refine ⟨ga K d.x, ma K (ga K d.x) "__init__", ⟨⟨clsB_ok c1, eqO_ok c2, of_decide_eq_true c3, of_decide_eq_true c4, c5⟩, eqO_ok c6, of_decide_eq_true c7, fun p hp => eqO_ok (List.all_eq_true.mp c8 p hp), eqO_ok c9, eqO_ok c10, of_decide_eq_true c11, of_decide_eq_true c12, htop, ?_⟩, PySem.W.mg_of X G (eqO_ok c0), hsup, s19⟩
  unfold fnI at e
  cases q : K.lookup (ma K (ga K d.x) "__init__") with
  | none => rw [q] at e; cases e
  | some o =>
    obtain ⟨oc, od, dt, osl⟩ := o
    rw [q] at e
    cases dt with
    | func fd =>
      obtain ⟨cda, n, cc, ccl, cdd, vs, ccs, file, tf, cl, cld, csl, z1, z2, z3, z4, z5, z6, z7⟩ := closB_ok c13 q
      obtain ⟨n1, n2, n3, n4, n5, n6, n7, n8, n9, n10, n11, n12, n13, n14, n15⟩ := fd
      simp only at z1 z3
      have e2 : (some (n1, n2, n3, n4, n5, n6, n7.map (·.1), n8, n15) : FnI) = (some (("__init__" : Str), d.qual, d.params, FuncBody.stmts d.body, d.scope, mainGlobals, [("__class__" : Str)], Value.none, builtinsNs) : FnI) := e
      simp only [Option.some.injEq, Prod.mk.injEq] at e2
      obtain ⟨h1, h2, h3, h4, h5, h6, h7, h8, h9⟩ := e2
      subst h1 h2 h3 h4 h5 h6 h8 h9 z1 z3
      have hn : n = ("__class__" : Str) := by simpa using h7
      subst hn
      exact ⟨oc, od, _, _, _, _, _, n9, n10, n11, n12, cda, n14, cc, osl, p0, p1, p2, p3, p4, es, as, ccl, cl, cdd, cld, vs, ccs, csl, file, tf, ar, rfl, z2, z5, z6, z7, z4, s1, s2, s3, s4, s5, s6, s7 _ _ _ _ _ _ _, s8, s9, s10, s11, s12, s13, s14, s15, s16, s17, s18, s19⟩
    | _ => cases e
/-! ## the Hook -/
def asW (g : Addr → Option Obj) : Nat → List Addr
  | 0 => [mainGlobals, cStatics]
  | n + 1 => growD g (asW g n)
abbrev AlW : Type := Bool × List FnW × List FnI
def obsW (P : Program) (fa : List Fa) (fn : List DefD) (xi : List XiD) (ex : PySem.W.Frag → Bool) (K : PySem.W.Frag) : AlW := ((fa.all fun f => f.ok K) && ((fn.all fun d => d.ok K) && ((xi.all fun d => d.ok P K) && ex K)), fn.map (fun d => fnW K d.at_), xi.map fun d => fnI K d.x)
def valW (fn : List DefD) (xi : List XiD) : AlW := (true, fn.map DefD.val, xi.map XiD.val)
def SaysW (P : Program) (fa : List Fa) (fn : List DefD) (xi : List XiD) (ex : PySem.W.Frag → Bool) (K : PySem.W.Frag) : Prop := obsW P fa fn xi ex K = valW fn xi
def obsWG (P : Program) (n : Nat) (fa : List Fa) (fn : List DefD) (xi : List XiD) (ex : PySem.W.Frag → Bool) (g : Addr → Option Obj) : AlW := obsW P fa fn xi ex (frG g (asW g n))
def hookW (P : Program) (n : Nat) (fa : List Fa) (fn : List DefD) (xi : List XiD) (ex : PySem.W.Frag → Bool) : PySem.W.Hook where
  α := AlW
  obs := fun s => obsWG P n fa fn xi ex s.heap.get?
  val := fun _ => valW fn xi
  says := fun _ h => ∃ K : PySem.W.Frag, K.In h ∧ SaysW P fa fn xi ex K
  of := fun _ _ e => ⟨_, frG_in, e⟩
  keeps := fun _ _ _ ⟨K, hK, c⟩ k => ⟨K, PySem.W.Frag.In.keeps hK k, c⟩
theorem obsWG_eq {P : Program} {n : Nat} {fa : List Fa} {fn : List DefD} {xi : List XiD} {ex : PySem.W.Frag → Bool} {g : Addr → Option Obj} {s : Shared} (h : ∀ a, g a = s.heap.get? a) : obsWG P n fa fn xi ex g = (hookW P n fa fn xi ex).obs s := by
  have e : g = s.heap.get? := funext h
  rw [e] <;> rfl
section
variable {P : Program} {fa : List Fa} {fn : List DefD} {xi : List XiD} {ex : PySem.W.Frag → Bool} {K : PySem.W.Frag}
theorem SaysW.parts (c : SaysW P fa fn xi ex K) : (fa.all fun f => f.ok K) = true ∧ (fn.all fun d => d.ok K) = true ∧ (xi.all fun d => d.ok P K) = true ∧ ex K = true := by
  obtain ⟨a, b⟩ := ba (show ((fa.all fun f => f.ok K) && ((fn.all fun d => d.ok K) && ((xi.all fun d => d.ok P K) && ex K))) = true from congrArg (fun z : AlW => z.1) c)
  obtain ⟨b1, b2⟩ := ba b
  obtain ⟨b3, b4⟩ := ba b2
  exact ⟨a, b1, b3, b4⟩
theorem SaysW.fact (c : SaysW P fa fn xi ex K) (i : Nat) {f : Fa} (h : fa[i]? = some f := by rfl) : f.ok K = true := List.all_eq_true.mp c.parts.1 f (List.mem_of_getElem? h)
theorem SaysW.extra (c : SaysW P fa fn xi ex K) : ex K = true := c.parts.2.2.2
theorem SaysW.def_ (c : SaysW P fa fn xi ex K) (i : Nat) {d : DefD} (h : fn[i]? = some d := by rfl) : ∃ fd, FunD K d.name d.qual d.params d.body d.scope (d.dvs K) (d.kws K) (fAd K d.at_) fd := by
  have e : fn.map (fun d => fnW K d.at_) = fn.map DefD.val := congrArg (fun z : AlW => z.2.1) c
  have e2 : (fn.map fun d => fnW K d.at_)[i]? = (fn.map DefD.val)[i]? := by rw [e]
  rw [List.getElem?_map, List.getElem?_map, h] at e2
  exact DefD.funD (Option.some.inj e2) (List.all_eq_true.mp c.parts.2.1 d (List.mem_of_getElem? h))
theorem SaysW.exc (c : SaysW P fa fn xi ex K) {h : Heap} {mg : Str → Option Value} (X : K.In h) (G : h.Ns mainGlobals mg) (htop : (P.main.scope.names.lookup ("super" : Str)).isSome = false) (hsup : mg "super" = none) (i : Nat) {d : XiD} (h : xi[i]? = some d := by rfl) (S : XiS d) : DL.Xk P K mg d.x d.ps := by
  have e : xi.map (fun d => fnI K d.x) = xi.map XiD.val := congrArg (fun z : AlW => z.2.2) c
  have e2 : (xi.map fun d => fnI K d.x)[i]? = (xi.map XiD.val)[i]? := by rw [e]
  rw [List.getElem?_map, List.getElem?_map, h] at e2
  exact xi_ok X G (Option.some.inj e2) (List.all_eq_true.mp c.parts.2.2.1 d (List.mem_of_getElem? h)) S htop hsup
end
end DLH
end
section
set_option Elab.async false
set_option linter.all false
set_option maxRecDepth 100000
set_option maxHeartbeats 4000000
namespace DL
open PySem PySem.Spec PyProof.Rows L2
section
variable {P : Program} {w : World} {K : PySem.W.Frag} {mg : Str → Option Value} {base : Heap} {N ps : List Str} {qual : Str} {scope : Scope} {f : Addr} {cd : Value} {A : Around} {outer : List PySem.Env} {s : Shared} {H : Hp} {E : XK}
abbrev WE0 (E : XK) : WX := fun cls d _ H => E cls d H
theorem cx_tk : Takes (cxOf (L2.CX P w) P w K mg base N qual scope f cd A outer s H E) (WE0 E) := L2.takes_of (E₁ := fun e' s'' => L2.CX P w outer H s E e' s'') rfl rfl rfl rfl
theorem cx_po : PassesOwn (model P w) (A.deeper (envOfC qual scope s.heap.objs.size f cd)) (envOfC qual scope s.heap.objs.size f cd) (cxOf (L2.CX P w) P w K mg base N qual scope f cd A outer s H E).xe := L2.passes_of (K := fun e s'' => L2.CX P w outer H s E e s'') (E₁ := fun e' s'' => L2.CX P w outer H s E e' s'') (X := cxOf (L2.CX P w) P w K mg base N qual scope f cd A outer s H E) rfl
abbrev JDef (P : Program) (w : World) (K : PySem.W.Frag) (mg : Str → Option Value) (base : Heap) (N : List Str) (qual : Str) (scope : Scope) (k : Nat) (ios : List Nat) (body : List Stmt) (c : S) : Prop :=
  ∀ (f : Addr) (cd : Value) (A : Around) (outer : List PySem.Env) (s : Shared) (H : Hp) (E : XK), Room k (A.deeper (envOfC qual scope s.heap.objs.size f cd)) → JSs (cxOf (L2.CX P w) P w K mg base N qual scope f cd A outer s H E) (WE0 E) ios body c
variable {x y : Str} {params : Arguments} {body : List Stmt} {fd : FuncData} {n k : Nat} {ios : List Nat} {c : S}
abbrev BindN (x qual : Str) (params : Arguments) (body : List Stmt) (scope : Scope) (ps : List Str) : Prop := ∀ (kV doc pm : Value) (an : Option Addr) (cdv ct : Value) (us : List Value), us.length = ps.length → bindArgs (PySem.W.fnOf x qual params body scope .none kV doc pm an cdv ct) ⟨us, []⟩ = pure (ps.zip us)
theorem fn_ok (F : FunD K x qual params body scope [] [] f fd) (S : FnScope N ps scope) (hn : ps.length = n) (hN : n ≤ N.length) (j : JDef P w K mg base N qual scope k ios body c) : FnOk P w K mg base (L2.CX P w) (k + 1) f fd ps (spD K mg n ios (runF n N.length c)) :=
  F.ok S (fun vs H Q E q => spD_len hn vs H Q E q) fun cdv A outer s H vs Q E hr hs => fn_end hN (j f cdv A outer s H E hr) hs
theorem df_of (F : FunD K x qual params body scope [] [] f fd) (S : FnScope N ps scope) (hn : ps.length = n) (hN : n ≤ N.length) (b : BindN x qual params body scope ps) (hm : mg y = some (.ref f)) (j : JDef P w K mg base N qual scope k ios body c) : Df P w K mg base y (k + 1) n ios (runF n N.length c) :=
  ⟨f, fd, ps, fn_ok F S hn hN j, hm, F.kp, F.bindsN b⟩
theorem dm_of {C : Addr} {cn m : Str} (F : FunD K x qual params body scope [] [] f fd) (S : FnScope N ps scope) (hn : ps.length = n) (hN : n ≤ N.length) (b : BindN x qual params body scope ps) (hm : mg cn = some (.ref C)) (hc : Cls K C) (hme : Meth K C m f) (j : JDef P w K mg base N qual scope k ios body c) : Dm P w K mg base cn m (k + 1) n ios (runF n N.length c) :=
  ⟨C, f, fd, ps, hm, hc, hme, fn_ok F S hn hN j, F.bindsN b⟩
theorem dk_of {C : Addr} {cn : Str} (F : FunD K x qual params body scope [] [] f fd) (S : FnScope N ps scope) (hn : ps.length = n) (hN : n ≤ N.length) (b : BindN x qual params body scope ps) (hm : mg cn = some (.ref C)) (M : Mk K C f) (j : JDef P w K mg base N qual scope k [0] body c) : Dk P w K mg base cn (k + 1) n (runF n N.length c) :=
  ⟨C, f, fd, ps, hm, M, fn_ok F S hn hN j, F.bindsN b⟩
/-- the law's end -/
theorem law_sp {m : Fn} {a : Addr} {ns : List Int} {q : List (Option Tr)} (hm : m [.v (.scr ns)] = .ret (.v (.bl true)) q) (hS : SqL K H a (ns.map V.int)) : spD K mg 1 [] m [.ref a] H (fun v _ => v = .bl true) (fun _ _ _ => False) := by
  refine ⟨fun _ => .free, [.v (.scr ns)], ⟨rfl, rfl, fun i t hi => ?_, fun b i o hb => (by cases hb), fun i hi => (by cases hi)⟩, ?_⟩
  · cases i with
    | zero =>
      cases hi
      refine ⟨.ref a, rfl, ?_⟩
      show RepD K mg (fun _ => .free) H (.scr ns) (.ref a)
      simp only [RepD]
      refine ⟨a, rfl, ?_⟩
      rcases hS with h | h
      · exact .inl ⟨rfl, h⟩
      · exact .inr (.inr h)
    | succ i => cases hi
  · rw [hm]
    intro own' v H' g bk r
    have : RepD K mg own' H' (.bl true) v := r
    simpa only [RepD] using this
end
end DL
end
section
namespace DL
open PySem PySem.Spec PyProof.Rows L2
theorem room_u1 {k : Nat} {A : Around} (r : Room k A) : A.units + 1 < cLine := by have := r.un; omega
theorem room_u65 {k : Nat} {A : Around} (r : Room k A) : A.units + 65 < cLine := by have := r.un; omega
theorem boot_dict' : bootBuiltins "dict" = some (.type "dict") := by first | boot_by_name | rfl | kernel_rfl
end DL
end
section
set_option Elab.async false
set_option linter.all false
set_option maxRecDepth 100000
set_option maxHeartbeats 4000000
namespace DL
open PySem PySem.Spec PyProof.Rows L2
section
variable {P : Program} {w : World} {K : PySem.W.Frag} {mg : Str → Option Value} {base : Heap}
theorem fld_nil {f : Str} : FldOk K mg [] f := fun c C h _ => by cases h
theorem fld_cons {c f : Str} {C0 : Addr} {cs : List Str} (hm : mg c = some (.ref C0)) (cl : Cls K C0) (na : NoAttr K C0 f) (r : FldOk K mg cs f) : FldOk K mg (c :: cs) f := fun c' C h e => by
  rcases List.mem_cons.mp h with h | h
  · subst h
    rw [hm] at e
    cases e
    exact ⟨cl, na⟩
  · exact r c' C h e
theorem ys_nil {c : Value} {b : Bool} : Ys K mg c b [] := fun x h => by cases h
theorem ys_cons {x : Str} {c : Value} {b : Bool} {C : Addr} {xs : List Str} (hm : mg x = some (.ref C)) (e : PySem.W.exmOne K (.ref C) c = some b) (r : Ys K mg c b xs) : Ys K mg c b (x :: xs) := fun x' h C' e' => by
  rcases List.mem_cons.mp h with h | h
  · subst h
    rw [hm] at e'
    cases e'
    exact e
  · exact r x' h C' e'
theorem mem_look {β : Type} {a : String} {b : β} : ∀ {l : List (String × β)}, l.lookup a = some b → (a, b) ∈ l
  | [], h => by cases h
  | (c, d) :: r, h => by
    rw [List.lookup_cons] at h
    cases e : a == c with
    | true =>
      rw [e] at h
      cases h
      rw [eq_of_beq e]
      exact List.mem_cons_self
    | false =>
      rw [e] at h
      exact List.mem_cons_of_mem _ (mem_look h)
theorem ist_ty {t : String} {bs : List (String × Bool)} (h : (bs.all fun p => decide (kitB p.1 t = some p.2)) = true) : IsT K mg (.type t) bs [] := ⟨fun a b e => kit_ty (of_decide_eq_true (List.all_eq_true.mp h (a, b) (mem_look e))), fun c b C e => by cases e⟩
theorem xn_of {x : Str} {h : Heap} (X : K.In h) (G : h.Ns mainGlobals mg) (c : (He.Fa.exc x).ok K = true) (c2 : (He.Fa.glo x).ok K = true) : Xn K mg x := by
  obtain ⟨c3, c4, c5, c6⟩ := He.exc_ok c
  exact ⟨_, c3, He.glo_ok X G c2, c4, c5, c6⟩
theorem xf_of {x f : Str} {h : Heap} (X : K.In h) (G : h.Ns mainGlobals mg) (c : (He.Fa.noat x f).ok K = true) (c2 : (He.Fa.glo x).ok K = true) (c3 : xfB K (He.ga K x) = true) : Xf K mg x f := ⟨_, He.glo_ok X G c2, xfB_ok c3, He.eqO_ok c⟩
/-- the exceptions' condition, of any world -/
def CXW (P : Program) : CXT := fun outer H s E e s' => ∃ w, L2.CX P w outer H s E e s'
theorem fn_cxw {k : Nat} {f : Addr} {fd : FuncData} {ps : List Str} {sp : Sp} (F : FnOk P w K mg base (L2.CX P w) k f fd ps sp) : FnOk P w K mg base (CXW P) k f fd ps sp :=
  ⟨F.len, fun A outer s H args us vs Q E hr he hb hv hs => codeAny_mono (F.run A outer s H args us vs Q E hr he hb hv hs) fun r s' h => by
    cases r with
    | error e => exact ⟨w, h⟩
    | ok fl => cases fl <;> exact h⟩
theorem cxw_none {H : Hp} {s : Shared} {e : Value} {s' : Shared} : CXW P [] H s (fun _ _ _ => False) e s' → False := fun ⟨w, z⟩ => by
  obtain ⟨_, _, _, _, _, _, _, _, _, _, _, _, z⟩ := z
  exact z
end
end DL
end
section
set_option Elab.async false
set_option linter.all false
set_option maxRecDepth 100000
set_option maxHeartbeats 4000000
/-! own operators: len(o), -o, o[i], x in o, o == x, by the text's own defs -/
namespace DLO
open PySem PySem.Spec PyProof.Rows L2 DL
section
variable {X : Cx} {a b e o : Expr} {es : List Expr} {pos p : Pos} {ta tb : TE} {CX : CXT} {k : Nat} {f C : Addr} {fd : FuncData} {ps : List Str} {sp : Sp} {E : L2.St → XK}
/-- the def called, from any place with room -/
theorem run_at {A : Around} {pins : List (Addr × Obj)} {σ : L2.St} {H : Hp} {s : Shared} {Q : VK} {us : List Value} {vs : List V} (F : FnOk X.prog X.w X.K X.mg X.base CX k f fd ps sp) (sb : Sub X k A) (hb : Binds X.K fd ps []) (hx : PassesAt CX X σ (E σ))
    (I : Inv X pins σ H s) (r : Vals vs us) (h : sp vs H Q (E σ)) : wpAny (model X.prog X.w) A (call (.ref f) us) (EP X pins σ Q) X.xe s := by
  have hl : (us ++ []).length = ps.length := by rw [List.append_nil, ← r.length]; exact F.len _ _ _ _ h
  have e0 : Env0 X.prog X.w X.K X.mg X.base A X.stack s H := by
    have i := I.env0
    exact ⟨sb.fr ▸ i.frames, i.mod, i.bs, i.bsz, i.funs, i.frf, i.hok, i.bare⟩
  have hbs := hb s us I.kIn hl
  rw [List.append_nil] at hbs
  refine wpAny_call (codeAny_mono (F.run A X.stack s H ⟨us, []⟩ us vs Q (E σ) sb.room e0 hbs r h) fun r s' hq => ?_)
  cases r with
  | error e => exact hx pins H s e s' I hq
  | ok fl =>
    cases fl with
    | ret u => exact I.after hq
    | next => exact hq.elim
    | brk => exact hq.elim
    | cont => exact hq.elim
/-- an instance whose class has the name from the text -/
structure Own (K : PySem.W.Frag) (C : Addr) (m : Str) (f : Addr) : Prop where
  at_ : PySem.W.findIn K (.ref C) m = some (some (.ref f))
  fn : PySem.W.isFn K (.ref f) = true
def tOwn1 (C : Addr) (sp : Sp) (E : L2.St → XK) (g : VK → VK) (ta : TE) : TE := fun σ H Q => ta σ H fun x H1 => ∃ i dx fs, x = .ref i ∧ H1 i = some (.ins C dx fs) ∧ sp [.ref i] H1 (g Q) (E σ)
/-- -o -/
theorem pe_negO (he : PE X o ta) (hm : Own X.K C "__neg__" f) (F : FnOk X.prog X.w X.K X.mg X.base CX k f fd ps sp) (hr : Room k X.A) (hb : Binds X.K fd ps []) (hx : ∀ σ, PassesAt CX X σ (E σ)) : PE X (.UnaryOp .USub o pos) (tOwn1 C sp E id ta) := by
  refine ⟨fun pins s σ H Q I h => UnaryOp_ (thn (he.run pins s σ H _ I h) fun v s1 ⟨x, H1, I1, r1, i, dx, fs, e1, e2, q⟩ => ?_)⟩
  subst e1
  obtain rfl : v = Value.ref i := r1
  obtain ⟨mA, J, _⟩ := ins_get I1.hok e2
  obtain ⟨od, J, _⟩ := J.look
  obtain ⟨m, hF⟩ := I1.fr
  exact PySem.W.ksp_neg hF I1.ok.mod.kin J hm.at_ hm.fn (run_at (vs := [.ref i]) F ⟨hr, rfl⟩ hb (hx σ) I1 (.cons rfl .nil) q)
/-- len of what a reading by r serves -/
def LenR (X : Cx) (r : L2.St → V → Hp → VK → Prop) : Prop := ∀ (pins : List (Addr × Obj)) (s : Shared) (σ : L2.St) (H : Hp) (x : V) (u : Value) (Q : VK), Inv X pins σ H s → RelV x u → r σ x H Q → wpAny (model X.prog X.w) X.A (call (.builtin "len") [u]) (EP X pins σ Q) X.xe s
theorem LenR.or {r r' : L2.St → V → Hp → VK → Prop} (h : LenR X r) (h' : LenR X r') : LenR X (fun σ x H Q => r σ x H Q ∨ r' σ x H Q) := fun pins s σ H x u Q I rx q => q.elim (h pins s σ H x u Q I rx) (h' pins s σ H x u Q I rx)
theorem lenR_of {r : List V → Hp → VK → Prop} (h : CallR X (.builtin "len") r) : LenR X (fun _ x H Q => r [x] H Q) := fun pins s σ H x u Q I rx q => h pins s σ H [x] [u] Q I (.cons rx .nil) q
def lenK (Q : VK) : VK := fun v H => ∃ n : Int, v = .int n ∧ 0 ≤ n ∧ n < 2 ^ 63 ∧ Q (.int n) H
theorem lenR_own (hm : Own X.K C "__len__" f) (F : FnOk X.prog X.w X.K X.mg X.base CX k f fd ps sp) (hr : Room (k + 1) X.A) (hb : Binds X.K fd ps []) (hx : ∀ σ, PassesAt CX X σ (E σ)) :
    LenR X (fun σ x H Q => ∃ i dx fs, x = .ref i ∧ H i = some (.ins C dx fs) ∧ sp [.ref i] H (lenK Q) (E σ)) := by
  intro pins s σ H x u Q I rx ⟨i, dx, fs, e1, e2, q⟩
  subst e1
  obtain rfl : u = Value.ref i := rx
  obtain ⟨mA, J, _⟩ := ins_get I.hok e2
  obtain ⟨od, J, _⟩ := J.look
  obtain ⟨m, hF⟩ := I.fr
  refine PySem.W.len_K hF I.ok.mod.kin J hm.at_ hm.fn (thn (run_at (A := X.A.in1) (vs := [.ref i]) F ⟨hr.in1, rfl⟩ hb (hx σ) I (.cons rfl .nil) q) fun v s1 ⟨z, H1, I1, rz, n, ez, n0, n1, q1⟩ => ?_)
  subst ez
  obtain ⟨t, rfl⟩ := rz
  exact ⟨⟨n0, n1⟩, .int n, H1, I1.tok _, ⟨_, rfl⟩, q1⟩
theorem pe_lenS {r : L2.St → V → Hp → VK → Prop} (hc : LenR X r) (he : PE X o ta) (hg : Gl X "len") (hml : X.mg "len" = none)
    (hs : starEach (o :: []) X.env = (false, eval o X.env) :: starEach [] X.env := by rfl) (hpl : (backTo pos (starEach [] X.env)).any (·.1) = false := by rfl) :
    PE X (.Call (.Name "len" p) [o] [] pos) (fun σ H Q => ta σ H fun x H1 => r σ x H1 Q) := by
  refine ⟨fun pins s σ H Q I h => ?_⟩
  refine wpAny_Call_Name_kw (ld_blt I hg hml boot_len ?_ (by decide) (by decide))
  have ha : PA X (o :: []) (tCons ta tNil) := pa_cons he pa_nil hs
  exact PyProof.Rows.callWith_builtin1 (thn (ha.run pos pins s σ H (fun vs H1 => match vs with | [x] => r σ x H1 Q | _ => False) I h) fun us s1 ⟨vs, H1, I1, r1, q⟩ => by
    match vs, us, r1, q with
    | [x], _, .cons rx .nil, q => exact hc pins s1 σ H1 x _ Q I1 rx q) hs hpl
/-! ## two places -/
abbrev R2S := L2.St → V → V → Hp → VK → Prop
def OpRS (X : Cx) (g : Value → Value → Sem Value) (r : R2S) : Prop := ∀ (pins : List (Addr × Obj)) (s : Shared) (σ : L2.St) (H : Hp) (x y : V) (v u : Value) (Q : VK), Inv X pins σ H s → RelV x v → RelV y u → r σ x y H Q → wpAny (model X.prog X.w) X.A (g v u) (EP X pins σ Q) X.xe s
theorem OpRS.or {g : Value → Value → Sem Value} {r r' : R2S} (h : OpRS X g r) (h' : OpRS X g r') : OpRS X g (fun σ x y H Q => r σ x y H Q ∨ r' σ x y H Q) := fun pins s σ H x y v u Q I rx ry q => q.elim (h pins s σ H x y v u Q I rx ry) (h' pins s σ H x y v u Q I rx ry)
theorem opRS_of {g : Value → Value → Sem Value} {r : R2} (h : OpR X g r) : OpRS X g (fun _ => r) := fun pins s σ H x y v u Q => h pins s σ H x y v u Q
theorem pe_cmpS {op : CmpOp} {r : R2S} (ho : OpRS X (compareOp op) r) (ha : PE X a ta) (hb : PE X b tb) (hm : behindInMarks op b = false) : PE X (.Compare a [op] [b] pos) (fun σ H Q => ta σ H fun x H1 => tb σ H1 fun y H2 => r σ x y H2 Q) := by
  refine ⟨fun pins s σ H Q I h => ?_⟩
  exact wpAny_Compare1 (binT ha hb I h fun v u s2 x y H2 I2 rx ry q => ho pins s2 σ H2 x y v u Q I2 rx ry q) hm
theorem pt_cmpS {op : CmpOp} {r : R2S} (ho : OpRS X (compareOp op) r) (ha : PE X a ta) (hb : PE X b tb) (hm : behindInMarks op b = false) : PT X (.Compare a [op] [b] pos) (tTest (fun σ H Q => ta σ H fun x H1 => tb σ H1 fun y H2 => r σ x y H2 Q)) := by
  refine ⟨fun pins s σ H Q I h => wpAny_isTrue_Compare1 (binT (f := fun v u => compareOp op v u) ha hb I h fun v u s2 x y H2 I2 rx ry q => thn (ho pins s2 σ H2 x y v u _ I2 rx ry q) fun c s3 ⟨z, H3, I3, r3, k, e, q3⟩ => ?_) hm⟩
  subst e
  obtain rfl : c = Value.bool k := r3
  exact wpAny_truthy_bool ⟨H3, I3, q3⟩
/-- x in o, by the text's own `__contains__` -/
def inK (neg : Bool) (Q : VK) : VK := fun v H => ∃ k : Bool, v = .bl k ∧ Q (.bl (k ^^ neg)) H
theorem opRS_in (hm : Own X.K C "__contains__" f) (F : FnOk X.prog X.w X.K X.mg X.base CX k f fd ps sp) (hr : Room k X.A) (hb : Binds X.K fd ps []) (hx : ∀ σ, PassesAt CX X σ (E σ)) :
    OpRS X (compareOp .In) (fun σ x y H Q => ∃ i dx fs, y = .ref i ∧ H i = some (.ins C dx fs) ∧ sp [.ref i, x] H (inK false Q) (E σ)) := by
  intro pins s σ H x y v u Q I rx ry ⟨i, dx, fs, e1, e2, q⟩
  subst e1
  obtain rfl : u = Value.ref i := ry
  obtain ⟨mA, J, _⟩ := ins_get I.hok e2
  obtain ⟨od, J, _⟩ := J.look
  obtain ⟨m, hF⟩ := I.fr
  refine PySem.W.in_K hF I.ok.mod.kin J hm.at_ hm.fn (thn (run_at (vs := [.ref i, x]) F ⟨hr, rfl⟩ hb (hx σ) I (.cons (show RelV (.ref i) (.ref i) from rfl) (.cons rx .nil)) q) fun r s1 ⟨z, H1, I1, rz, n, ez, q1⟩ => ?_)
  subst ez
  obtain rfl : r = Value.bool n := rz
  exact wpAny_truthy_bool ⟨.bl n, H1, I1, rfl, by simpa using q1⟩
theorem opRS_notIn (hm : Own X.K C "__contains__" f) (F : FnOk X.prog X.w X.K X.mg X.base CX k f fd ps sp) (hr : Room k X.A) (hb : Binds X.K fd ps []) (hx : ∀ σ, PassesAt CX X σ (E σ)) :
    OpRS X (compareOp .NotIn) (fun σ x y H Q => ∃ i dx fs, y = .ref i ∧ H i = some (.ins C dx fs) ∧ sp [.ref i, x] H (inK true Q) (E σ)) := by
  intro pins s σ H x y v u Q I rx ry ⟨i, dx, fs, e1, e2, q⟩
  subst e1
  obtain rfl : u = Value.ref i := ry
  obtain ⟨mA, J, _⟩ := ins_get I.hok e2
  obtain ⟨od, J, _⟩ := J.look
  obtain ⟨m, hF⟩ := I.fr
  refine PySem.W.notIn_K hF I.ok.mod.kin J hm.at_ hm.fn (thn (run_at (vs := [.ref i, x]) F ⟨hr, rfl⟩ hb (hx σ) I (.cons (show RelV (.ref i) (.ref i) from rfl) (.cons rx .nil)) q) fun r s1 ⟨z, H1, I1, rz, n, ez, q1⟩ => ?_)
  subst ez
  obtain rfl : r = Value.bool n := rz
  exact wpAny_truthy_bool ⟨.bl (!n), H1, I1, rfl, by simpa using q1⟩
/-- o == y, by the text's own `__eq__` -/
def eqK (Q : VK) : VK := fun v H => ∃ k : Bool, v = .bl k ∧ Q v H
def EqSide (X : Cx) (C : Addr) (H : Hp) : V → Prop
  | .ref b => ∃ dy gs, H b = some (.ins C dy gs)
  | _ => False
theorem opRS_eq (hm : Own X.K C "__eq__" f) (F : FnOk X.prog X.w X.K X.mg X.base CX k f fd ps sp) (hr : Room k X.A) (hb : Binds X.K fd ps []) (hx : ∀ σ, PassesAt CX X σ (E σ)) :
    OpRS X (compareOp .Eq) (fun σ x y H Q => ∃ i dx fs, x = .ref i ∧ H i = some (.ins C dx fs) ∧ EqSide X C H y ∧ sp [.ref i, y] H (eqK Q) (E σ)) := by
  intro pins s σ H x y v u Q I rx ry ⟨i, dx, fs, e1, e2, ey, q⟩
  subst e1
  obtain rfl : v = Value.ref i := rx
  obtain ⟨mA, J, _⟩ := ins_get I.hok e2
  obtain ⟨od, J, _⟩ := J.look
  obtain ⟨m, hF⟩ := I.fr
  cases y with
  | ref b =>
    obtain ⟨dy, gs, e3⟩ := ey
    obtain rfl : u = Value.ref b := ry
    obtain ⟨mB, J', _⟩ := ins_get I.hok e3
    obtain ⟨od', J', _⟩ := J'.look
    show wpAny (model X.prog X.w) X.A (richCompare .Eq (.ref i) (.ref b)) (EP X pins σ Q) X.xe s
    refine PySem.W.cmp_K (op := .Eq) (tb := .ref C) hr.units0 hF I.ok.mod.kin J J'.type (by simp [PySem.W.notFirst]) hm.at_ hm.fn (thn (run_at (vs := [.ref i, .ref b]) F ⟨hr, rfl⟩ hb (hx σ) I (.cons (show RelV (.ref i) (.ref i) from rfl) (.cons (show RelV (.ref b) (.ref b) from rfl) .nil)) q) fun r s1 ⟨z, H1, I1, rz, n, ez, q1⟩ => ?_)
    subst ez
    obtain rfl : r = Value.bool n := rz
    exact ⟨.bl n, H1, I1, rfl, q1⟩
  | _ => exact ey.elim
end
end DLO
end
section
set_option Elab.async false
set_option linter.all false
set_option maxRecDepth 100000
set_option maxHeartbeats 4000000
namespace DLO
open PySem PySem.Spec PyProof.Rows L2 DL
section
variable {X : Cx} {a b e o : Expr} {es : List Expr} {pos p : Pos} {ta tb : TE} {CX : CXT} {k : Nat} {f C : Addr} {fd : FuncData} {ps : List Str} {sp : Sp} {E : L2.St → XK}
/-! ## o[i] -/
def PlainIxO (b : Expr) : Prop := ∀ o i, subscripted b true o i = runValue (.builtin "lifetime.subscript" ⟨[o, i], []⟩)
def IxRS (X : Cx) (r : R2S) : Prop :=
  ∀ (value slice : Expr) (pins : List (Addr × Obj)) (s : Shared) (σ : L2.St) (H : Hp) (x y : V) (v u : Value) (Q : VK), Inv X pins σ H s → RelV x v → RelV y u → r σ x y H Q →
    subscripted slice false v u = operate [v, u] (getItem v u) → subscripted slice true v u = runValue (.builtin "lifetime.subscript" ⟨[v, u], []⟩) → wpAny (model X.prog X.w) X.A (subscriptTail value slice v u) (EP X pins σ Q) X.xe s
theorem IxRS.or {r r' : R2S} (h : IxRS X r) (h' : IxRS X r') : IxRS X (fun σ x y H Q => r σ x y H Q ∨ r' σ x y H Q) := fun value slice pins s σ H x y v u Q I rx ry q => q.elim (h value slice pins s σ H x y v u Q I rx ry) (h' value slice pins s σ H x y v u Q I rx ry)
theorem ixRS_of {r : R2} (h : IxR X r) : IxRS X (fun _ => r) := fun value slice pins s σ H x y v u Q I rx ry q hs _ => h value slice pins s σ H x y v u Q I rx ry q hs
theorem pe_ixS {r : R2S} (hr : IxRS X r) (ha : PE X a ta) (hb : PE X b tb) (hs : PlainIx b := by intro _ _; rfl) (hs2 : PlainIxO b := by intro _ _; rfl) : PE X (.Subscript a b pos) (fun σ H Q => ta σ H fun x H1 => tb σ H1 fun y H2 => r σ x y H2 Q) := by
  refine ⟨fun pins s σ H Q I h => ?_⟩
  exact Subscript_ (binT ha hb I h fun v u s2 x y H2 I2 rx ry q => hr a b pins s2 σ H2 x y v u Q I2 rx ry q (hs _ _) (hs2 _ _))
theorem ixRS_own (hm : Own X.K C "__getitem__" f) (hfi : PySem.W.fnIn X.K f = true) (F : FnOk X.prog X.w X.K X.mg X.base CX k f fd ps sp) (hr : Room (k + 1) X.A) (hb : Binds X.K fd ps []) (hx : ∀ σ, PassesAt CX X σ (E σ)) :
    IxRS X (fun σ x y H Q => ∃ i dx fs, x = .ref i ∧ H i = some (.ins C dx fs) ∧ sp [.ref i, y] H Q (E σ)) := by
  intro value slice pins s σ H x y v u Q I rx ry ⟨i, dx, fs, e1, e2, q⟩ _ hs
  subst e1
  obtain rfl : v = Value.ref i := rx
  obtain ⟨mA, J, _⟩ := ins_get I.hok e2
  obtain ⟨od, J, _⟩ := J.look
  obtain ⟨m, hF⟩ := I.fr
  exact PySem.W.sub_K hF I.ok.mod.kin J hm.at_ hfi hm.fn (run_at (A := X.A.in1) (vs := [.ref i, y]) F ⟨hr.in1, rfl⟩ hb (hx σ) I (.cons (show RelV (.ref i) (.ref i) from rfl) (.cons ry .nil)) q) hs
/-! ## o == y, y of a built-in kind -/
theorem notFirst_of {K : PySem.W.Frag} {T : String} (h : PySem.W.subIn K (.type T) (.ref C) = some false) : PySem.W.notFirst K C (.type T) = true := by
  simp [PySem.W.notFirst, h]
/-- no built-in type is one of C's own -/
structure NoSub (K : PySem.W.Frag) (C : Addr) : Prop where
  str : PySem.W.subIn K (.type "str") (.ref C) = some false
  int : PySem.W.subIn K (.type "int") (.ref C) = some false
  bl : PySem.W.subIn K (.type "bool") (.ref C) = some false
  non : PySem.W.subIn K (.type "NoneType") (.ref C) = some false
  lst : PySem.W.subIn K (.type "list") (.ref C) = some false
  tup : PySem.W.subIn K (.type "tuple") (.ref C) = some false
def flatS : V → Bool
  | .str _ => true | .int _ => true | .bl _ => true | .non => true | _ => false
theorem opRS_eqF (hm : Own X.K C "__eq__" f) (N : NoSub X.K C) (F : FnOk X.prog X.w X.K X.mg X.base CX k f fd ps sp) (hr : Room k X.A) (hb : Binds X.K fd ps []) (hx : ∀ σ, PassesAt CX X σ (E σ)) :
    OpRS X (compareOp .Eq) (fun σ x y H Q => ∃ i dx fs, x = .ref i ∧ H i = some (.ins C dx fs) ∧ flatS y = true ∧ sp [.ref i, y] H (eqK Q) (E σ)) := by
  intro pins s σ H x y v u Q I rx ry ⟨i, dx, fs, e1, e2, ey, q⟩
  subst e1
  obtain rfl : v = Value.ref i := rx
  obtain ⟨mA, J, _⟩ := ins_get I.hok e2
  obtain ⟨od, J, _⟩ := J.look
  obtain ⟨m, hF⟩ := I.fr
  have fin : ∀ T : String, PySem.W.subIn X.K (.type T) (.ref C) = some false → PySem.W.Looks (model X.prog X.w) s.heap (typeOf u) (.type T) → wpAny (model X.prog X.w) X.A (compareOp .Eq (.ref i) u) (EP X pins σ Q) X.xe s := fun T hT hL => by
    show wpAny (model X.prog X.w) X.A (richCompare .Eq (.ref i) u) (EP X pins σ Q) X.xe s
    refine PySem.W.cmp_K (op := .Eq) (tb := .type T) hr.units0 hF I.ok.mod.kin J hL (notFirst_of hT) hm.at_ hm.fn (thn (run_at (vs := [.ref i, y]) F ⟨hr, rfl⟩ hb (hx σ) I (.cons (show RelV (.ref i) (.ref i) from rfl) (.cons ry .nil)) q) fun r s1 ⟨z, H1, I1, rz, n, ez, q1⟩ => ?_)
    subst ez
    obtain rfl : r = Value.bool n := rz
    exact ⟨.bl n, H1, I1, rfl, q1⟩
  cases y with
  | str z => obtain ⟨t, rfl⟩ := ry; exact fin "str" N.str .now
  | int z => obtain ⟨t, rfl⟩ := ry; exact fin "int" N.int .now
  | bl z => obtain rfl := ry; exact fin "bool" N.bl .now
  | non => obtain rfl := ry; exact fin "NoneType" N.non .now
  | _ => simp [flatS] at ey
end
end DLO
end
section
set_option Elab.async false
set_option linter.all false
set_option maxRecDepth 100000
set_option maxHeartbeats 4000000
/-! o != y where the class has its own `__eq__` and no `__ne__` -/
namespace DLO
open PySem PySem.W PySem.Spec PyProof.Rows
section
variable {prog : Program} {w : World} {A : Around} {E : Value → Shared → Prop} {s : Shared} {K : Frag} {x C L f : Addr} {h₀ : Heap} {m : Str → Option Value} {ox : Obj} {od : Option Obj} {b tb : Value}
theorem slot_one : PySem.Slot "object" "__ne__" "object.__ne__" := PySem.Slot.of (T := "object") (name := "__ne__") (owner := "object") (n := "__ne__") (by rw [typeLookup_type, builtinLookup_eq_fast]; kernel_rfl) (by decide +kernel) (by decide +kernel) (by decide +kernel)
  (.inl (by decide +kernel)) (by rw [isSubtype_type]; kernel_rfl)
theorem body_one {Q : Fin → Shared → Prop} (hu : A.units < cLine) (X : K.In s.heap) (I : InstAt s.heap x ox C od) (hs : findIn K (.ref C) "__eq__" = some (some (.ref f))) (hf : isFn K (.ref f) = true)
    (hc : wpAny (model prog w) A (call (.ref f) [.ref x, b]) (fun v s' => ∃ k, v = .bool k ∧ Q (.done (.ret (.bool (!k)))) s') E s) : wpAny (model prog w) A (Builtin.«object.__ne__» ⟨[.ref x, b], []⟩) Q E s := by
  obtain ⟨hp, g, d, t, os⟩ := s
  unfold Builtin.«object.__ne__»
  repeat (first
    | with_reducible refine wpAny_cRoomFor hu ?_
    | (refine wpAny_bind (m := callSpecialIfBound? (.ref x) (Str.ofString "__eq__") [b]) (ifBound_K X I hs hf (wpAny_mono hc (fun r s' hr => by
          obtain ⟨k, rfl, hq⟩ := hr
          repeat (first | exact hq | exact wpAny_pure hq | exact wpAny_truthy_bool hq | (refine wpAny_bind (m := truthy (.bool _)) (wpAny_truthy_bool ?_)) | wp_step)) fun _ _ e => e)))
    | wp_step)
theorem try_one {Q : Option Value → Shared → Prop} (hu : A.units + 1 < cLine) (X : K.In s.heap) (I : InstAt s.heap x ox C od) (hne : findIn K (.ref C) "__ne__" = some (some (.builtin "object.__ne__"))) (hob : subIn K (.ref C) (.type "object") = some true)
    (hs : findIn K (.ref C) "__eq__" = some (some (.ref f))) (hf : isFn K (.ref f) = true)
    (hc : wpAny (model prog w) A.in1 (call (.ref f) [.ref x, b]) (fun v s' => ∃ k, v = .bool k ∧ Q (some (.bool (!k))) s') E s) : wpAny (model prog w) A (tryCompare (.ref x) "__ne__" b) Q E s := by
  unfold tryCompare
  refine wpAny_bind ?_
  have hi : Looks (model prog w) s.heap (isInstance (.ref x) (.type "object")) true := I.type.andThen (looks_subIn X hob)
  have call1 : wpAny (model prog w) A (call (.builtin "object.__ne__") [.ref x, b]) (fun v s' => ∃ k, v = .bool k ∧ Q (some (.bool k)) s') E s := by
    refine wpAny_call (codeAny_call_builtin slot_one.plain PySem.F.cmpEntry_ne ?_)
    refine check_slot PySem.F.cmpKind_ne PySem.F.cmpSplit_ne hi (PySem.F.cmpArgs_ne _ _) ?_
    refine body_one (A := A.in1) (by exact hu) X I hs hf (wpAny_mono hc (fun v s' hv => ?_) fun _ _ e => e)
    obtain ⟨k, rfl, hq⟩ := hv
    exact ⟨k, rfl, !k, rfl, hq⟩
  unfold callSpecialIfBound? bindSpecialIfBound? specialOf
  refine wpAny_holding (wpAny_bind (wpAny_bind (wpAny_bind (I.type.here ((looks_findIn X hne).here ?_)))))
  simp only [slot_one.bind]
  refine wpAny_bind (wpAny_askSetting (wpAny_ite ?_))
  have fin : wpAny (model prog w) A (call (.builtin "object.__ne__") ([.ref x] ++ [b]) >>= fun v => pure (some v)) (fun r s' => ∃ k, r = some (.bool k) ∧ Q (some (.bool k)) s') E s :=
    wpAny_bind (wpAny_mono call1 (fun v s' ⟨k, e, q⟩ => wpAny_pure ⟨k, by rw [e], q⟩) fun _ _ e => e)
  have go : ∀ {Q' : Option Value → Shared → Prop}, (∀ k s', Q (some (.bool k)) s' → Q' (some (.bool k)) s') → wpAny (model prog w) A (call (.builtin "object.__ne__") ([.ref x] ++ [b]) >>= fun v => pure (some v)) Q' E s := fun hQ => wpAny_mono fin (fun r s' ⟨k, e, q⟩ => e ▸ hQ k s' q) fun _ _ e => e
  split
  · exact wpAny_bind (wpAny_pure (wpAny_pure (go fun k s' q => wpAny_pure q)))
  · exact wpAny_tryCatch (wpAny_bind (wpAny_pure (wpAny_pure (go fun k s' q => wpAny_pure q))))
theorem ne_own {Q : Value → Shared → Prop} (hu : A.units + 1 < cLine) (F : Fr h₀ L s.heap m) (X₀ : K.In h₀) (I : InstAt s.heap x ox C od) (hb : Looks (model prog w) s.heap (typeOf b) tb) (hn : notFirst K C tb = true)
    (hne : findIn K (.ref C) "__ne__" = some (some (.builtin "object.__ne__"))) (hob : subIn K (.ref C) (.type "object") = some true) (hs : findIn K (.ref C) "__eq__" = some (some (.ref f))) (hf : isFn K (.ref f) = true)
    (hc : wpAny (model prog w) A.in1 (call (.ref f) [.ref x, b]) (fun v s' => ∃ k, v = .bool k ∧ Q (.bool (!k)) s') E s) : wpAny (model prog w) A (richCompare .NotEq (.ref x) b) Q E s := by
  have X := X₀.keeps F.keep
  have one : wpAny (model prog w) A (tryCompare (.ref x) "__ne__" b) (fun r s' => ∃ v, r = some v ∧ Q v s') E s :=
    try_one hu X I hne hob hs hf (wpAny_mono hc (fun v s' ⟨k, e, q⟩ => ⟨k, e, _, rfl, q⟩) fun _ _ e => e)
  unfold richCompare
  simp only [oneThing_ref]
  refine wpAny_holding (wpAny_bind (wpAny_cRoomFor (Nat.lt_of_succ_lt hu) ?_))
  rw [cmpInfo_NotEq]
  dsimp only
  refine wpAny_bind (I.type.here (wpAny_bind (hb.here ?_)))
  split
  · rename_i q
    have e : subIn K tb (.ref C) = some false := by
      rcases Bool.or_eq_true_iff.mp hn with e | e
      · rw [beq_iff_eq.mp e] at q; simp at q
      · exact beq_iff_eq.mp e
    refine wpAny_bind ((looks_subIn X e).here ?_)
    simp only [Bool.false_eq_true, if_false]
    exact wpAny_bind (wpAny_mono one (fun r s' ⟨v, e, q⟩ => by subst e; exact wpAny_pure q) fun _ _ e => e)
  · refine wpAny_bind (wpAny_pure ?_)
    simp only [Bool.false_eq_true, if_false]
    exact wpAny_bind (wpAny_mono one (fun r s' ⟨v, e, q⟩ => by subst e; exact wpAny_pure q) fun _ _ e => e)
end
end DLO
end
section
set_option Elab.async false
set_option linter.all false
set_option maxRecDepth 100000
set_option maxHeartbeats 4000000
/-! own operators over the mirror -/
namespace DLO
open PySem PySem.Spec PyProof.Rows L2 DL
/-- the class c has the text's def for m, which does fn -/
structure Do (P : Program) (w : World) (K : PySem.W.Frag) (mg : Str → Option Value) (base : Heap) (c m : Str) (k n : Nat) (fn : Fn) : Prop where
  ex : ∃ (C f : Addr) (fd : FuncData) (ps : List Str), mg c = some (.ref C) ∧ Own K C m f ∧ PySem.W.fnIn K f = true ∧ FnOk P w K mg base (L2.CX P w) k f fd ps (spD K mg n [] fn) ∧ Binds K fd ps []
def isC (c : Str) : Dt → Bool
  | .obj c' _ => decide (c' = c)
  | _ => false
def cOwn1 (c : Str) (fn : Fn) (co : C Ar) : C Tr := bindR co fun x => bindR (der x) fun d => if isC c d then callR 1 [] fn [x] else lift none
section
variable {X : Cx} {W : WX} {ios : List Nat} {e a b o : Expr} {es : List Expr} {pos p apos : Pos}
theorem own1_end {K : PySem.W.Frag} {mg : Str → Option Value} {F : Fi} {c : Str} {Cc : Addr} {fn : Fn} {co : C Ar} {own : DL.Own} {σ : L2.St} {H : Hp} {ρ : Rho} {Q : VK} {g : VK → VK} (hp : F.pin.map (·.1) = ios) (hC : mg c = some (.ref Cc)) (he : Env K mg F own σ H ρ)
    (po : PostR K mg W F own σ H (repF K mg) (cOwn1 c fn co ρ) (g Q)) : tOwn1 Cc (spD K mg 1 [] fn) (fun σ => WE W σ) g (cQ K mg W ios co) σ H Q := by
  refine ⟨F, own, ρ, hp, he, PostR.bind anti_F po fun own1 x H1 a ρ1 g1 e1 r1 p1 => ?_⟩
  unfold bindR der at p1
  cases h1 : deref a ρ1 with
  | none => rw [h1] at p1; exact p1.elim
  | some d =>
    rw [h1] at p1
    simp only at p1
    cases hi : isC c d with
    | false => rw [hi] at p1; exact p1.elim
    | true =>
      rw [hi] at p1
      simp only [if_true] at p1
      cases d with
      | obj c' fs =>
        simp only [isC, decide_eq_true_eq] at hi
        subst hi
        obtain ⟨a', C', dx, q, ex, m', k, en, rf⟩ := pk_obj (deref_pk e1 r1 h1)
        rw [hC] at m'
        cases m'
        subst ex
        exact ⟨a', dx, q, rfl, k, call_sp e1 (by simp only [RepA]; exact ⟨.ref a', [], rfl, r1, rfl⟩) p1⟩
      | _ => simp only [isC] at hi; cases hi
theorem jf_negO {c : Str} {k : Nat} {fn : Fn} {co : C Ar} (D : Do X.prog X.w X.K X.mg X.base c "__neg__" k 1 fn) (hr : Room k X.A) (tk : Takes X W) (ho : JQ X W ios o co) : JF X W ios (.UnaryOp .USub o pos) (cOwn1 c fn co) := by
  obtain ⟨C, f, fd, ps, hC, hm, hfi, F, hb⟩ := D.ex
  exact pe_imp (pe_negO (E := fun σ => WE W σ) ho hm F hr hb fun σ => passAt tk σ) fun σ H Q ⟨F, own, ρ, hp, he, po⟩ => own1_end (g := id) hp hC he po
end
end DLO
end
section
set_option Elab.async false
set_option linter.all false
set_option maxRecDepth 100000
set_option maxHeartbeats 400000
namespace DLO
open PySem PySem.Spec PyProof.Rows L2 DL
section
variable {X : Cx} {W : WX} {ios : List Nat} {e a b o : Expr} {es : List Expr} {pos p apos : Pos}
def lenOk (n : Int) : Bool := decide (0 ≤ n) && decide (n < 2 ^ 63)
theorem lenOk_of {n : Int} (h : lenOk n = true) : 0 ≤ n ∧ n < 2 ^ 63 := by
  unfold lenOk at h
  rw [Bool.and_eq_true, decide_eq_true_eq, decide_eq_true_eq] at h
  exact h
def lenT (t : Tr) : C Dt := match t with
  | .v (.int n) => if lenOk n = true then ret (.int n) else lift none
  | _ => lift none
def cLenO (c : Str) (fn : Fn) (co : C Ar) : C Dt := bindR (cOwn1 c fn co) lenT
theorem pe_lenO {CX : CXT} {k : Nat} {f C : Addr} {fd : FuncData} {ps : List Str} {sp : Sp} {E : L2.St → XK} {ta : TE} (he : PE X o ta) (hm : Own X.K C "__len__" f) (F : FnOk X.prog X.w X.K X.mg X.base CX k f fd ps sp) (hr : Room (k + 1) X.A) (hb : Binds X.K fd ps []) (hx : ∀ σ, PassesAt CX X σ (E σ)) (hg : Gl X "len") (hml : X.mg "len" = none)
    (hs : starEach (o :: []) X.env = (false, eval o X.env) :: starEach [] X.env) (hpl : (backTo pos (starEach [] X.env)).any (·.1) = false) : PE X (.Call (.Name "len" p) [o] [] pos) (tOwn1 C sp E lenK ta) := by
  have h := lenR_own (E := E) hm F hr hb hx
  exact pe_lenS (ta := ta) (r := fun σ x H Q => ∃ i dx fs, x = .ref i ∧ H i = some (.ins C dx fs) ∧ sp [.ref i] H (lenK Q) (E σ)) h he hg hml hs hpl
theorem len_end {K : PySem.W.Frag} {mg : Str → Option Value} {F : Fi} {own : DL.Own} {σ : L2.St} {H : Hp} {ρ : Rho} {Q : VK} {c : C Tr} (po : PostR K mg W F own σ H (repE K mg) (bindR c lenT ρ) Q) : PostR K mg W F own σ H (repF K mg) (c ρ) (lenK Q) := by
  refine PostR.bind anti_E po fun own1 x H1 t ρ1 g1 e1 r1 p1 => ?_
  unfold lenT at p1
  split at p1
  · rename_i n
    cases h : lenOk n with
    | true =>
      rw [h] at p1
      have ex : x = .int n := by simpa only [repF, RepD] using r1
      obtain ⟨h1, h2⟩ := lenOk_of h
      exact ⟨n, ex, h1, h2, p1 own1 _ H1 Good.refl e1 (rep_int n)⟩
    | false => rw [h] at p1; exact p1.elim
  · exact p1.elim
theorem je_lenO {c : Str} {k : Nat} {fn : Fn} {co : C Ar} (D : Do X.prog X.w X.K X.mg X.base c "__len__" k 1 fn) (hr : Room (k + 1) X.A) (tk : Takes X W) (hml : X.mg "len" = none) (ho : JQ X W ios o co) (hg : Gl X "len" := by rfl)
    (hs : starEach (o :: []) X.env = (false, eval o X.env) :: starEach [] X.env := by rfl) (hpl : (backTo pos (starEach [] X.env)).any (·.1) = false := by rfl) : JE X W ios (.Call (.Name "len" p) [o] [] pos) (cLenO c fn co) := by
  obtain ⟨C, f, fd, ps, hC, hm, hfi, F, hb⟩ := D.ex
  have h := pe_lenO (p := p) (E := fun σ => WE W σ) ho hm F hr hb (fun σ => passAt tk σ) hg hml hs hpl
  refine pe_imp h fun σ H Q ⟨F, own, ρ, hp, he, po⟩ => ?_
  exact own1_end (g := lenK) hp hC he (len_end po)
end
end DLO
end
section
set_option Elab.async false
set_option linter.all false
set_option maxRecDepth 100000
set_option maxHeartbeats 400000
namespace DLO
open PySem PySem.Spec PyProof.Rows L2 DL
/-- the instance first -/
def cOwn2 (c : Str) (fn : Fn) (ca cb : C Ar) : C Tr := bindR ca fun x => bindR cb fun y => bindR (der x) fun d => if isC c d then callR 2 [] fn [x, y] else lift none
/-- the instance behind -/
def cOwn2r (c : Str) (fn : Fn) (ca cb : C Ar) : C Tr := bindR ca fun x => bindR cb fun y => bindR (der y) fun d => if isC c d then callR 2 [] fn [y, x] else lift none
section
variable {X : Cx} {W : WX} {ios : List Nat} {e a b o : Expr} {es : List Expr} {pos p apos : Pos}
abbrev rOwn2 (C : Addr) (sp : Sp) (E : L2.St → XK) (g : VK → VK) : R2S := fun σ x y H Q => ∃ i dx fs, x = .ref i ∧ H i = some (.ins C dx fs) ∧ sp [.ref i, y] H (g Q) (E σ)
abbrev rOwn2r (C : Addr) (sp : Sp) (E : L2.St → XK) (g : VK → VK) : R2S := fun σ x y H Q => ∃ i dx fs, y = .ref i ∧ H i = some (.ins C dx fs) ∧ sp [.ref i, x] H (g Q) (E σ)
theorem own2_end {K : PySem.W.Frag} {mg : Str → Option Value} {F : Fi} {c : Str} {Cc : Addr} {fn : Fn} {ca cb : C Ar} {own : DL.Own} {σ : L2.St} {H : Hp} {ρ : Rho} {Q : VK} {g : VK → VK} (hp : F.pin.map (·.1) = ios) (hC : mg c = some (.ref Cc)) (he : Env K mg F own σ H ρ)
    (po : PostR K mg W F own σ H (repF K mg) (cOwn2 c fn ca cb ρ) (g Q)) : cQ K mg W ios ca σ H fun x H1 => cQ K mg W ios cb σ H1 fun y H2 => rOwn2 Cc (spD K mg 2 [] fn) (fun σ => WE W σ) g σ x y H2 Q := by
  refine ⟨F, own, ρ, hp, he, PostR.bind anti_F po fun own1 x H1 a ρ1 g1 e1 r1 p1 => ⟨F, own1, ρ1, hp, e1, PostR.bind anti_F p1 fun own2 y H2 b ρ2 g2 e2 r2 p2 => ?_⟩⟩
  unfold bindR der at p2
  cases h1 : deref a ρ2 with
  | none => rw [h1] at p2; exact p2.elim
  | some d =>
    rw [h1] at p2
    simp only at p2
    cases hi : isC c d with
    | false => rw [hi] at p2; exact p2.elim
    | true =>
      rw [hi] at p2
      simp only [if_true] at p2
      cases d with
      | obj c' fs =>
        simp only [isC, decide_eq_true_eq] at hi
        subst hi
        obtain ⟨a', C', dx, q, ex, m', k, en, rf⟩ := pk_obj (deref_pk e2 (repAr_mono g2 r1) h1)
        rw [hC] at m'
        cases m'
        subst ex
        exact ⟨a', dx, q, rfl, k, call_sp e2 (by simp only [RepA]; exact ⟨.ref a', [y], rfl, repAr_mono g2 r1, y, [], rfl, r2, rfl⟩) p2⟩
      | _ => simp only [isC] at hi; cases hi
theorem own2r_end {K : PySem.W.Frag} {mg : Str → Option Value} {F : Fi} {c : Str} {Cc : Addr} {fn : Fn} {ca cb : C Ar} {own : DL.Own} {σ : L2.St} {H : Hp} {ρ : Rho} {Q : VK} {g : VK → VK} (hp : F.pin.map (·.1) = ios) (hC : mg c = some (.ref Cc)) (he : Env K mg F own σ H ρ)
    (po : PostR K mg W F own σ H (repF K mg) (cOwn2r c fn ca cb ρ) (g Q)) : cQ K mg W ios ca σ H fun x H1 => cQ K mg W ios cb σ H1 fun y H2 => rOwn2r Cc (spD K mg 2 [] fn) (fun σ => WE W σ) g σ x y H2 Q := by
  refine ⟨F, own, ρ, hp, he, PostR.bind anti_F po fun own1 x H1 a ρ1 g1 e1 r1 p1 => ⟨F, own1, ρ1, hp, e1, PostR.bind anti_F p1 fun own2 y H2 b ρ2 g2 e2 r2 p2 => ?_⟩⟩
  unfold bindR der at p2
  cases h1 : deref b ρ2 with
  | none => rw [h1] at p2; exact p2.elim
  | some d =>
    rw [h1] at p2
    simp only at p2
    cases hi : isC c d with
    | false => rw [hi] at p2; exact p2.elim
    | true =>
      rw [hi] at p2
      simp only [if_true] at p2
      cases d with
      | obj c' fs =>
        simp only [isC, decide_eq_true_eq] at hi
        subst hi
        obtain ⟨a', C', dx, q, ex, m', k, en, rf⟩ := pk_obj (deref_pk e2 r2 h1)
        rw [hC] at m'
        cases m'
        subst ex
        exact ⟨a', dx, q, rfl, k, call_sp e2 (by simp only [RepA]; exact ⟨.ref a', [x], rfl, r2, x, [], rfl, repAr_mono g2 r1, rfl⟩) p2⟩
      | _ => simp only [isC] at hi; cases hi
theorem jf_ixO {c : Str} {k : Nat} {fn : Fn} {ca cb : C Ar} (D : Do X.prog X.w X.K X.mg X.base c "__getitem__" k 2 fn) (hr : Room (k + 1) X.A) (tk : Takes X W) (ha : JQ X W ios a ca) (hb' : JQ X W ios b cb) (hs : PlainIx b := by intro _ _; rfl) (hs2 : PlainIxO b := by intro _ _; rfl) :
    JF X W ios (.Subscript a b pos) (cOwn2 c fn ca cb) := by
  obtain ⟨C, f, fd, ps, hC, hm, hfi, F, hb⟩ := D.ex
  have h := pe_ixS (pos := pos) (r := rOwn2 C (spD X.K X.mg 2 [] fn) (fun σ => WE W σ) id) (ixRS_own (E := fun σ => WE W σ) hm hfi F hr hb fun σ => passAt tk σ) ha hb' hs hs2
  exact pe_imp h fun σ H Q ⟨F, own, ρ, hp, he, po⟩ => own2_end (g := id) hp hC he po
/-- the answer of `__contains__` -/
def inT (neg : Bool) (t : Tr) : C Dt := match t with
  | .v (.bl k) => ret (.bl (k ^^ neg))
  | _ => lift none
theorem in_end {K : PySem.W.Frag} {mg : Str → Option Value} {F : Fi} {own : DL.Own} {σ : L2.St} {H : Hp} {ρ : Rho} {Q : VK} {c : C Tr} {neg : Bool} (po : PostR K mg W F own σ H (repE K mg) (bindR c (inT neg) ρ) Q) : PostR K mg W F own σ H (repF K mg) (c ρ) (inK neg Q) := by
  refine PostR.bind anti_E po fun own1 x H1 t ρ1 g1 e1 r1 p1 => ?_
  unfold inT at p1
  split at p1
  · rename_i n
    have ex : x = .bl n := by simpa only [repF, RepD] using r1
    exact ⟨n, ex, p1 own1 _ H1 Good.refl e1 (by simp only [repE, RepD])⟩
  · exact p1.elim
def cInO (neg : Bool) (c : Str) (fn : Fn) (ca cb : C Ar) : C Dt := bindR (cOwn2r c fn ca cb) (inT neg)
theorem je_inO {c : Str} {k : Nat} {fn : Fn} {ca cb : C Ar} (D : Do X.prog X.w X.K X.mg X.base c "__contains__" k 2 fn) (hr : Room k X.A) (tk : Takes X W) (ha : JQ X W ios a ca) (hb' : JQ X W ios b cb) (hm' : behindInMarks .In b = false := by rfl) :
    JE X W ios (.Compare a [.In] [b] pos) (cInO false c fn ca cb) := by
  obtain ⟨C, f, fd, ps, hC, hm, hfi, F, hb⟩ := D.ex
  have h := pe_cmpS (pos := pos) (r := rOwn2r C (spD X.K X.mg 2 [] fn) (fun σ => WE W σ) (inK false)) (opRS_in (E := fun σ => WE W σ) hm F hr hb fun σ => passAt tk σ) ha hb' hm'
  exact pe_imp h fun σ H Q ⟨F, own, ρ, hp, he, po⟩ => own2r_end (g := inK false) hp hC he (in_end po)
theorem je_notInO {c : Str} {k : Nat} {fn : Fn} {ca cb : C Ar} (D : Do X.prog X.w X.K X.mg X.base c "__contains__" k 2 fn) (hr : Room k X.A) (tk : Takes X W) (ha : JQ X W ios a ca) (hb' : JQ X W ios b cb) (hm' : behindInMarks .NotIn b = false := by rfl) :
    JE X W ios (.Compare a [.NotIn] [b] pos) (cInO true c fn ca cb) := by
  obtain ⟨C, f, fd, ps, hC, hm, hfi, F, hb⟩ := D.ex
  have h := pe_cmpS (pos := pos) (r := rOwn2r C (spD X.K X.mg 2 [] fn) (fun σ => WE W σ) (inK true)) (opRS_notIn (E := fun σ => WE W σ) hm F hr hb fun σ => passAt tk σ) ha hb' hm'
  exact pe_imp h fun σ H Q ⟨F, own, ρ, hp, he, po⟩ => own2r_end (g := inK true) hp hC he (in_end po)
end
end DLO
end
section
set_option Elab.async false
set_option linter.all false
set_option maxRecDepth 100000
set_option maxHeartbeats 400000
namespace DLO
open PySem PySem.Spec PyProof.Rows L2 DL
section
variable {X : Cx} {W : WX} {ios : List Nat} {e a b o : Expr} {es : List Expr} {pos p apos : Pos} {CX : CXT} {k : Nat} {f C : Addr} {fd : FuncData} {ps : List Str} {sp : Sp} {E : L2.St → XK}
/-- what the other side of == may be -/
def SideV (X : Cx) (C : Addr) (H : Hp) (y : V) : Prop := EqSide X C H y ∨ flatS y = true ∨ ∃ a xs, y = .ref a ∧ (SqL X.K H a xs ∨ SqT X.K H a xs)
theorem side_type {pins : List (Addr × Obj)} {s : Shared} {σ : L2.St} {H : Hp} {y : V} {u : Value} (N : NoSub X.K C) (I : Inv X pins σ H s) (ry : RelV y u) (h : SideV X C H y) : ∃ tb, PySem.W.Looks (model X.prog X.w) s.heap (typeOf u) tb ∧ PySem.W.notFirst X.K C tb = true := by
  rcases h with h | h | ⟨a, xs, e, h⟩
  · cases y with
    | ref b =>
      obtain ⟨dy, gs, e3⟩ := h
      obtain rfl : u = Value.ref b := ry
      obtain ⟨mB, J', _⟩ := ins_get I.hok e3
      obtain ⟨od', J', _⟩ := J'.look
      exact ⟨_, J'.type, by simp [PySem.W.notFirst]⟩
    | _ => exact h.elim
  · cases y with
    | str z => obtain ⟨t, rfl⟩ := ry; exact ⟨_, .now, notFirst_of N.str⟩
    | int z => obtain ⟨t, rfl⟩ := ry; exact ⟨_, .now, notFirst_of N.int⟩
    | bl z => obtain rfl := ry; exact ⟨_, .now, notFirst_of N.bl⟩
    | non => obtain rfl := ry; exact ⟨_, .now, notFirst_of N.non⟩
    | _ => simp [flatS] at h
  · subst e
    obtain rfl : u = Value.ref a := ry
    rcases h with h | h
    · obtain ⟨its, rv, ⟨o, n, ho, hc, _, hd⟩, _⟩ := I.list h
      exact ⟨.type "list", hc ▸ (PySem.W.Looks.ld ho).andThen .now, notFirst_of N.lst⟩
    · obtain ⟨its, rv, ⟨o, ho, hc, n, hd⟩, _⟩ := I.tuple h
      exact ⟨.type "tuple", hc ▸ (PySem.W.Looks.ld ho).andThen .now, notFirst_of N.tup⟩
theorem opRS_eqA (hm : Own X.K C "__eq__" f) (N : NoSub X.K C) (F : FnOk X.prog X.w X.K X.mg X.base CX k f fd ps sp) (hr : Room k X.A) (hb : Binds X.K fd ps []) (hx : ∀ σ, PassesAt CX X σ (E σ)) :
    OpRS X (compareOp .Eq) (fun σ x y H Q => ∃ i dx fs, x = .ref i ∧ H i = some (.ins C dx fs) ∧ SideV X C H y ∧ sp [.ref i, y] H (eqK Q) (E σ)) := by
  intro pins s σ H x y v u Q I rx ry ⟨i, dx, fs, e1, e2, ey, q⟩
  subst e1
  obtain rfl : v = Value.ref i := rx
  obtain ⟨mA, J, _⟩ := ins_get I.hok e2
  obtain ⟨od, J, _⟩ := J.look
  obtain ⟨m, hF⟩ := I.fr
  obtain ⟨tb, hL, hN⟩ := side_type N I ry ey
  show wpAny (model X.prog X.w) X.A (richCompare .Eq (.ref i) u) (EP X pins σ Q) X.xe s
  refine PySem.W.cmp_K (op := .Eq) (tb := tb) hr.units0 hF I.ok.mod.kin J hL hN hm.at_ hm.fn (thn (run_at (vs := [.ref i, y]) F ⟨hr, rfl⟩ hb (hx σ) I (.cons (show RelV (.ref i) (.ref i) from rfl) (.cons ry .nil)) q) fun r s1 ⟨z, H1, I1, rz, n, ez, q1⟩ => ?_)
  subst ez
  obtain rfl : r = Value.bool n := rz
  exact ⟨.bl n, H1, I1, rfl, q1⟩
/-- the class has no `__ne__` of its own -/
structure NoNe (K : PySem.W.Frag) (C : Addr) : Prop where
  ne : PySem.W.findIn K (.ref C) "__ne__" = some (some (.builtin "object.__ne__"))
  ob : PySem.W.subIn K (.ref C) (.type "object") = some true
def neK (Q : VK) : VK := fun v H => ∃ k : Bool, v = .bl k ∧ Q (.bl (!k)) H
theorem opRS_neA (hm : Own X.K C "__eq__" f) (N : NoSub X.K C) (M : NoNe X.K C) (F : FnOk X.prog X.w X.K X.mg X.base CX k f fd ps sp) (hr : Room (k + 1) X.A) (hb : Binds X.K fd ps []) (hx : ∀ σ, PassesAt CX X σ (E σ)) :
    OpRS X (compareOp .NotEq) (fun σ x y H Q => ∃ i dx fs, x = .ref i ∧ H i = some (.ins C dx fs) ∧ SideV X C H y ∧ sp [.ref i, y] H (neK Q) (E σ)) := by
  intro pins s σ H x y v u Q I rx ry ⟨i, dx, fs, e1, e2, ey, q⟩
  subst e1
  obtain rfl : v = Value.ref i := rx
  obtain ⟨mA, J, _⟩ := ins_get I.hok e2
  obtain ⟨od, J, _⟩ := J.look
  obtain ⟨m, hF⟩ := I.fr
  obtain ⟨tb, hL, hN⟩ := side_type N I ry ey
  have hu : X.A.units + 1 < cLine := by have := hr.units; omega
  show wpAny (model X.prog X.w) X.A (richCompare .NotEq (.ref i) u) (EP X pins σ Q) X.xe s
  refine ne_own hu hF I.ok.mod.kin J hL hN M.ne M.ob hm.at_ hm.fn (thn (run_at (A := X.A.in1) (vs := [.ref i, y]) F ⟨hr.in1, rfl⟩ hb (hx σ) I (.cons (show RelV (.ref i) (.ref i) from rfl) (.cons ry .nil)) q) fun r s1 ⟨z, H1, I1, rz, n, ez, q1⟩ => ?_)
  subst ez
  obtain rfl : r = Value.bool n := rz
  exact ⟨n, rfl, .bl (!n), H1, I1, rfl, q1⟩
end
/-! ## over the mirror -/
section
variable {X : Cx} {W : WX} {ios : List Nat} {e a b o : Expr} {es : List Expr} {pos p apos : Pos}
def sideD (c : Str) : Dt → Bool
  | .obj c' _ => decide (c' = c)
  | .str _ => true | .int _ => true | .bl _ => true | .non => true | .lst _ => true | .tup _ => true
  | _ => false
def cOwnE (c : Str) (fn : Fn) (ca cb : C Ar) : C Tr := bindR ca fun x => bindR cb fun y => bindR (der x) fun d => bindR (der y) fun d' => if isC c d && sideD c d' then callR 2 [] fn [x, y] else lift none
theorem ownE_end {F : Fi} {c : Str} {Cc : Addr} {fn : Fn} {ca cb : C Ar} {own : DL.Own} {σ : L2.St} {H : Hp} {ρ : Rho} {Q : VK} {g : VK → VK} (hp : F.pin.map (·.1) = ios) (hC : X.mg c = some (.ref Cc)) (he : Env X.K X.mg F own σ H ρ)
    (po : PostR X.K X.mg W F own σ H (repF X.K X.mg) (cOwnE c fn ca cb ρ) (g Q)) : cQ X.K X.mg W ios ca σ H fun x H1 => cQ X.K X.mg W ios cb σ H1 fun y H2 => ∃ i dx fs, x = .ref i ∧ H2 i = some (.ins Cc dx fs) ∧ SideV X Cc H2 y ∧ spD X.K X.mg 2 [] fn [.ref i, y] H2 (g Q) (WE W σ) := by
  refine ⟨F, own, ρ, hp, he, PostR.bind anti_F po fun own1 x H1 a ρ1 g1 e1 r1 p1 => ⟨F, own1, ρ1, hp, e1, PostR.bind anti_F p1 fun own2 y H2 b ρ2 g2 e2 r2 p2 => ?_⟩⟩
  unfold bindR der at p2
  cases h1 : deref a ρ2 with
  | none => rw [h1] at p2; exact p2.elim
  | some d =>
    rw [h1] at p2
    simp only at p2
    cases h2 : deref b ρ2 with
    | none => rw [h2] at p2; exact p2.elim
    | some d' =>
      rw [h2] at p2
      simp only at p2
      cases hi : isC c d && sideD c d' with
      | false => rw [hi] at p2; exact p2.elim
      | true =>
        rw [hi] at p2
        simp only [if_true] at p2
        obtain ⟨hi1, hi2⟩ := Bool.and_eq_true_iff.mp hi
        have side : SideV X Cc H2 y := by
          have pk := deref_pk e2 r2 h2
          cases d' with
          | obj c' fs =>
            simp only [sideD, decide_eq_true_eq] at hi2
            subst hi2
            obtain ⟨a', C', dx, q, ex, m', k, en, rf⟩ := pk_obj pk
            rw [hC] at m'
            cases m'
            subst ex
            exact .inl ⟨dx, q, k⟩
          | str z => rw [pk_str pk]; exact .inr (.inl rfl)
          | int z => rw [pk_int pk]; exact .inr (.inl rfl)
          | bl z => rw [pk_bl pk]; exact .inr (.inl rfl)
          | non => rw [pk_non pk]; exact .inr (.inl rfl)
          | lst z =>
            obtain ⟨a', xs, ex, k, r⟩ := pk_lst pk
            exact .inr (.inr ⟨a', xs, ex, .inl (SqL.of k)⟩)
          | tup z =>
            obtain ⟨a', xs, ex, _, k, r⟩ := pk_tup pk
            exact .inr (.inr ⟨a', xs, ex, .inr (SqT.of k)⟩)
          | _ => simp only [sideD] at hi2; cases hi2
        cases d with
        | obj c' fs =>
          simp only [isC, decide_eq_true_eq] at hi1
          subst hi1
          obtain ⟨a', C', dx, q, ex, m', k, en, rf⟩ := pk_obj (deref_pk e2 (repAr_mono g2 r1) h1)
          rw [hC] at m'
          cases m'
          subst ex
          exact ⟨a', dx, q, rfl, k, side, call_sp e2 (by simp only [RepA]; exact ⟨.ref a', [y], rfl, repAr_mono g2 r1, y, [], rfl, r2, rfl⟩) p2⟩
        | _ => simp only [isC] at hi1; cases hi1
def eqT (t : Tr) : C Dt := match t with
  | .v (.bl k) => ret (.bl k)
  | _ => lift none
def neT (t : Tr) : C Dt := match t with
  | .v (.bl k) => ret (.bl (!k))
  | _ => lift none
theorem eq_end {K : PySem.W.Frag} {mg : Str → Option Value} {F : Fi} {own : DL.Own} {σ : L2.St} {H : Hp} {ρ : Rho} {Q : VK} {c : C Tr} (po : PostR K mg W F own σ H (repE K mg) (bindR c eqT ρ) Q) : PostR K mg W F own σ H (repF K mg) (c ρ) (eqK Q) := by
  refine PostR.bind anti_E po fun own1 x H1 t ρ1 g1 e1 r1 p1 => ?_
  unfold eqT at p1
  split at p1
  · rename_i n
    have ex : x = .bl n := by simpa only [repF, RepD] using r1
    subst ex
    exact ⟨n, rfl, p1 own1 _ H1 Good.refl e1 (by simp only [repE, RepD])⟩
  · exact p1.elim
theorem ne_end {K : PySem.W.Frag} {mg : Str → Option Value} {F : Fi} {own : DL.Own} {σ : L2.St} {H : Hp} {ρ : Rho} {Q : VK} {c : C Tr} (po : PostR K mg W F own σ H (repE K mg) (bindR c neT ρ) Q) : PostR K mg W F own σ H (repF K mg) (c ρ) (neK Q) := by
  refine PostR.bind anti_E po fun own1 x H1 t ρ1 g1 e1 r1 p1 => ?_
  unfold neT at p1
  split at p1
  · rename_i n
    have ex : x = .bl n := by simpa only [repF, RepD] using r1
    exact ⟨n, ex, p1 own1 _ H1 Good.refl e1 (by simp only [repE, RepD])⟩
  · exact p1.elim
theorem je_eqO {c : Str} {k : Nat} {fn : Fn} {ca cb : C Ar} (D : Do X.prog X.w X.K X.mg X.base c "__eq__" k 2 fn) (N : ∀ C, X.mg c = some (.ref C) → NoSub X.K C) (hr : Room k X.A) (tk : Takes X W) (ha : JQ X W ios a ca) (hb' : JQ X W ios b cb) (hm' : behindInMarks .Eq b = false := by rfl) :
    JE X W ios (.Compare a [.Eq] [b] pos) (bindR (cOwnE c fn ca cb) eqT) := by
  obtain ⟨C, f, fd, ps, hC, hm, hfi, F, hb⟩ := D.ex
  have h := pe_cmpS (pos := pos) (opRS_eqA (E := fun σ => WE W σ) hm (N C hC) F hr hb fun σ => passAt tk σ) ha hb' hm'
  exact pe_imp h fun σ H Q ⟨F, own, ρ, hp, he, po⟩ => ownE_end (g := eqK) hp hC he (eq_end po)
theorem je_neO {c : Str} {k : Nat} {fn : Fn} {ca cb : C Ar} (D : Do X.prog X.w X.K X.mg X.base c "__eq__" k 2 fn) (N : ∀ C, X.mg c = some (.ref C) → NoSub X.K C ∧ NoNe X.K C) (hr : Room (k + 1) X.A) (tk : Takes X W) (ha : JQ X W ios a ca) (hb' : JQ X W ios b cb) (hm' : behindInMarks .NotEq b = false := by rfl) :
    JE X W ios (.Compare a [.NotEq] [b] pos) (bindR (cOwnE c fn ca cb) neT) := by
  obtain ⟨C, f, fd, ps, hC, hm, hfi, F, hb⟩ := D.ex
  have h := pe_cmpS (pos := pos) (opRS_neA (E := fun σ => WE W σ) hm (N C hC).1 (N C hC).2 F hr hb fun σ => passAt tk σ) ha hb' hm'
  exact pe_imp h fun σ H Q ⟨F, own, ρ, hp, he, po⟩ => ownE_end (g := neK) hp hC he (ne_end po)
end
end DLO
end
section
set_option Elab.async false
set_option linter.all false
set_option maxRecDepth 100000
set_option maxHeartbeats 400000
namespace DLO
open PySem PySem.Spec PyProof.Rows L2 DL
section
variable {P : Program} {w : World} {K : PySem.W.Frag} {mg : Str → Option Value} {base : Heap} {N ps : List Str} {qual : Str} {scope : Scope} {f : Addr} {x : Str} {params : Arguments} {body : List Stmt} {fd : FuncData} {n k : Nat} {c : S}
theorem fnIn_of (F : FunD K x qual params body scope [] [] f fd) : PySem.W.fnIn K f = true := by
  obtain ⟨oc, od, dV, kV, doc, pm, an, cdv, ct, osl, _, lk, _⟩ := F.ex
  unfold PySem.W.fnIn
  rw [lk]
theorem do_of {C : Addr} {cn m : Str} (F : FunD K x qual params body scope [] [] f fd) (S : FnScope N ps scope) (hn : ps.length = n) (hN : n ≤ N.length) (b : BindN x qual params body scope ps) (hm : mg cn = some (.ref C)) (hme : Meth K C m f) (j : JDef P w K mg base N qual scope k [] body c) : Do P w K mg base cn m (k + 1) n (runF n N.length c) :=
  ⟨C, f, fd, ps, hm, ⟨hme.at_, hme.fn⟩, fnIn_of F, fn_ok F S hn hN j, F.bindsN b⟩
end
end DLO
end
section
set_option Elab.async false
set_option linter.all false
set_option maxRecDepth 100000
set_option maxHeartbeats 400000
namespace DLO
open PySem PySem.Spec PyProof.Rows L2 DL
def listT (d : Dt) : C Tr := match d with
  | .lst ds => ret (.o (.lst ds))
  | .tup ds => ret (.o (.lst ds))
  | _ => lift none
def cListS (ca : C Ar) : C Tr := bindR ca fun x => bindR (der x) listT
section
variable {X : Cx} {W : WX} {ios : List Nat} {e : Expr} {pos p : Pos}
theorem jf_listS {ca : C Ar} (hm : X.mg "list" = none) (ha : JQ X W ios e ca) (hv : bootBuiltins "list" = some (.type "list")) (hg : Gl X "list" := by rfl)
    (he : starEach (e :: []) X.env = (false, eval e X.env) :: starEach [] X.env := by rfl) (hpl : (backTo pos (starEach [] X.env)).any (·.1) = false := by rfl) : JF X W ios (.Call (.Name "list" p) [e] [] pos) (cListS ca) := by
  have h := pe_callTy (p := p) call_list_of hg hm hv (pa_cons ha pa_nil he) (by decide) (by decide) he hpl
  refine pe_imp h fun σ H Q ⟨F, own, ρ, hp, hE, po⟩ => ⟨F, own, ρ, hp, hE, PostR.bind anti_F po fun own1 x H1 a ρ1 g1 e1 r1 p1 => ?_⟩
  unfold bindR der at p1
  cases h1 : deref a ρ1 with
  | none => rw [h1] at p1; exact p1.elim
  | some d =>
    rw [h1] at p1
    simp only at p1
    have pk := deref_pk e1 r1 h1
    have fin : ∀ {ds : List Dt} {xs : List V}, RepL X.K X.mg own1 H1 ds xs → PostR X.K X.mg W F own1 σ H1 (repF X.K X.mg) (ret (.o (.lst ds)) ρ1) Q → ∀ l, H1 l = none → Q (.ref l) (upd H1 l (.lst xs)) := fun {ds xs} r po l hl => by
      have x4 : Ext own1 H1 (setO own1 l .other) (upd H1 l (.lst xs)) := Ext.new hl fun _ => by intro z; cases z
      exact po _ _ _ x4.good (e1.ext x4) ⟨l, rfl, hl, setO_same, by simp only [RepO]; exact ⟨xs, upd_same, r.mono x4.good.fre⟩⟩
    cases d with
    | lst ds =>
      obtain ⟨a', xs, ex, k, r⟩ := pk_lst pk
      subst ex
      exact ⟨a', xs, rfl, .inl (.inl (.inl k)), fin r p1⟩
    | tup ds =>
      obtain ⟨a', xs, ex, _, k, r⟩ := pk_tup pk
      subst ex
      exact ⟨a', xs, rfl, .inr (.inl (.inl k)), fin r p1⟩
    | _ => exact p1.elim
end
end DLO
end
section
set_option Elab.async false
set_option linter.all false
set_option maxRecDepth 100000
set_option maxHeartbeats 400000
namespace DLO
open PySem PySem.Spec PyProof.Rows L2 DL
section
variable {X : Cx}
theorem sgn_vals {z : Str} {acc : Array Value} (h : ItemsOf (SignAt z) acc z.cps.size) : Vals (z.cps.toList.map fun c => V.str ⟨#[c]⟩) acc.toList := by
  have key : ∀ (cs : List Nat) (vs : List Value), vs.length = cs.length → (∀ (j : Nat) (v : Value), vs[j]? = some v → ∃ (c : Nat) (u : Tok), cs[j]? = some c ∧ v = Value.str ⟨#[c]⟩ u) → Vals (cs.map fun c => V.str ⟨#[c]⟩) vs := by
    intro cs
    induction cs with
    | nil => intro vs e _; cases vs with | nil => exact .nil | cons v vs => simp at e
    | cons c cs ih =>
      intro vs e hv
      cases vs with
      | nil => simp at e
      | cons v vs =>
        obtain ⟨c', u, e1, e2⟩ := hv 0 v rfl
        simp only [List.getElem?_cons_zero, Option.some.injEq] at e1
        subst e1; subst e2
        exact .cons ⟨u, rfl⟩ (ih vs (by simpa using e) fun j v h => by simpa using hv (j + 1) v (by simpa using h))
  refine key _ _ (by rw [Array.length_toList, Array.length_toList]; exact h.1) fun j v hj => ?_
  obtain ⟨c, u, e1, e2⟩ := h.2 j v (by simpa using hj)
  exact ⟨c, u, by simpa using e1, e2⟩
theorem call_listS (hc : X.calm = true) : CallR X (.type "list") (fun xs H Q => ∃ z, xs = [.str z] ∧ z.cps.size ≤ sizeLine ∧ ∀ l, H l = none → Q (.ref l) (upd H l (.lst (z.cps.toList.map fun c => V.str ⟨#[c]⟩)))) := by
  intro pins s σ H xs us Q I r ⟨z, e, hz, q⟩
  subst e
  obtain ⟨u, rfl, rx⟩ := vals1 r
  obtain ⟨t, rfl⟩ := rx
  exact call_list_str (I.ok.hd hc) z t (fun h' tk acc' c' kp e hi =>
    ⟨.ref s.heap.objs.size, _, I.laid (t' := tk) kp (Nat.le_refl _) (show ObjOk X.prog X.w _ h' _ (.lst _) from ⟨by rw [List.length_map, Array.length_toList]; exact hz, acc'.toList, c', sgn_vals hi, by simpa using e⟩), rfl, q _ (I.hok.fresh (Nat.le_refl _))⟩) hz
end
end DLO
end
section
set_option Elab.async false
set_option linter.all false
set_option maxRecDepth 100000
set_option maxHeartbeats 400000
namespace DLO
open PySem PySem.Spec PyProof.Rows L2 DL
def listA (d : Dt) : C Tr := match d with
  | .lst ds => ret (.o (.lst ds))
  | .tup ds => ret (.o (.lst ds))
  | .str s => if fits s.length then ret (.o (.lst (s.map fun c => .str [c]))) else lift none
  | _ => lift none
def cListA (ca : C Ar) : C Tr := bindR ca fun x => bindR (der x) listA
section
variable {X : Cx} {W : WX} {ios : List Nat} {e : Expr} {pos p : Pos}
theorem call_or {f : Value} {r r' : List V → Hp → VK → Prop} (h : CallR X f r) (h' : CallR X f r') : CallR X f (fun xs H Q => r xs H Q ∨ r' xs H Q) := fun pins s σ H xs us Q I rx q => q.elim (h pins s σ H xs us Q I rx) (h' pins s σ H xs us Q I rx)
theorem rep_signs {own : DL.Own} {H : Hp} : ∀ (s : List Nat), RepL X.K X.mg own H (s.map fun c => Dt.str [c]) (s.map fun c => V.str ⟨#[c]⟩)
  | [] => by simp only [List.map_nil, RepL]
  | c :: s => by
    simp only [List.map_cons, RepL]
    exact ⟨_, _, rfl, by simp only [RepD]; rfl, rep_signs s⟩
theorem jf_listA {ca : C Ar} (hc : X.calm = true) (hm : X.mg "list" = none) (ha : JQ X W ios e ca) (hv : bootBuiltins "list" = some (.type "list")) (hg : Gl X "list" := by rfl)
    (he : starEach (e :: []) X.env = (false, eval e X.env) :: starEach [] X.env := by rfl) (hpl : (backTo pos (starEach [] X.env)).any (·.1) = false := by rfl) : JF X W ios (.Call (.Name "list" p) [e] [] pos) (cListA ca) := by
  have h := pe_callTy (p := p) (call_or call_list_of (call_listS hc)) hg hm hv (pa_cons ha pa_nil he) (by decide) (by decide) he hpl
  refine pe_imp h fun σ H Q ⟨F, own, ρ, hp, hE, po⟩ => ⟨F, own, ρ, hp, hE, PostR.bind anti_F po fun own1 x H1 a ρ1 g1 e1 r1 p1 => ?_⟩
  unfold bindR der at p1
  cases h1 : deref a ρ1 with
  | none => rw [h1] at p1; exact p1.elim
  | some d =>
    rw [h1] at p1
    simp only at p1
    have pk := deref_pk e1 r1 h1
    have fin : ∀ {ds : List Dt} {xs : List V}, RepL X.K X.mg own1 H1 ds xs → PostR X.K X.mg W F own1 σ H1 (repF X.K X.mg) (ret (.o (.lst ds)) ρ1) Q → ∀ l, H1 l = none → Q (.ref l) (upd H1 l (.lst xs)) := fun {ds xs} r po l hl => by
      have x4 : Ext own1 H1 (setO own1 l .other) (upd H1 l (.lst xs)) := Ext.new hl fun _ => by intro z; cases z
      exact po _ _ _ x4.good (e1.ext x4) ⟨l, rfl, hl, setO_same, by simp only [RepO]; exact ⟨xs, upd_same, r.mono x4.good.fre⟩⟩
    cases d with
    | lst ds =>
      obtain ⟨a', xs, ex, k, r⟩ := pk_lst pk
      subst ex
      exact .inl ⟨a', xs, rfl, .inl (.inl (.inl k)), fin r p1⟩
    | tup ds =>
      obtain ⟨a', xs, ex, _, k, r⟩ := pk_tup pk
      subst ex
      exact .inl ⟨a', xs, rfl, .inr (.inl (.inl k)), fin r p1⟩
    | str z =>
      obtain rfl := pk_str pk
      cases hz : fits z.length with
      | false => simp only [listA, hz] at p1; exact p1.elim
      | true =>
        simp only [listA, hz, if_true] at p1
        exact .inr ⟨mkS z, rfl, by simpa [mkS] using fits_le hz, by
          have e : (mkS z).cps.toList = z := by simp [mkS]
          rw [e]
          exact fin (rep_signs z) p1⟩
    | _ => exact p1.elim
end
end DLO
end
section
set_option Elab.async false
set_option linter.all false
set_option maxRecDepth 100000
set_option maxHeartbeats 4000000
namespace DLO
open PySem PySem.Spec PyProof.Rows L2 DL
/-! ## s[::-1] of a text -/
def tRevT (te : TE) : TE := fun σ H Q => te σ H fun x H1 => ∃ z : Str, x = .str z ∧ z.cps.size ≤ sizeLine ∧ Q (.str ⟨z.cps.toList.reverse.toArray⟩) H1
theorem rev_picked (z : Str) : (slicePicked z none none (some ((-1 : Int), default))).filterMap (z.cps[·]?) = z.cps.toList.reverse := by
  show (sliceRange ((z.cps.size : Int) - 1) (-1) (-1)).filterMap (z.cps[·]?) = _
  rw [PySem.W.krv_sliceRange, PySem.W.krv_range, List.filterMap_reverse, PySem.W.krv_all]
theorem pe_revT {X : Cx} {e : Expr} {te : TE} {k} {p1 p2 p3 pos : Pos} (he : PE X e te) : PE X (.Subscript e (.Slice none none (some (.UnaryOp .USub (.Constant (.int 1) k p1) p2)) p3) pos) (tRevT te) := by
  refine ⟨fun pins s σ H Q I h => ?_⟩
  refine Subscript_ (thn (he.run pins s σ H _ I h) fun v s1 ⟨x, H1, I1, r1, q1⟩ => ?_)
  obtain ⟨z, ex, hz, q⟩ := q1
  subst ex
  obtain ⟨t, rfl⟩ := r1
  have hst : PO X (some (.UnaryOp .USub (.Constant (.int 1) k p1) p2)) (tPart (tUn (rU fun i => .int (-i)) (tC (.int 1)))) := po_some (pe_un un_neg pe_int)
  refine wpAny_Slice (thn (po_none.run pins s1 σ H1 (fun o H2 => o = none ∧ H2 = H1) I1 ⟨rfl, rfl⟩) fun vl s2 ⟨l, H2, I2, pl, el, e2⟩ => ?_)
  subst el e2
  refine thn (po_none.run pins s2 σ H2 (fun o H3 => o = none ∧ H3 = H2) I2 ⟨rfl, rfl⟩) fun vu s3 ⟨u, H3, I3, pu, eu, e3⟩ => ?_
  subst eu e3
  refine thn (hst.run pins s3 σ H3 (fun o H4 => o = some (-1) ∧ H4 = H3) I3 ⟨1, rfl, -1, rfl, rfl, rfl⟩) fun vs s4 ⟨o, H4, I4, ps, eo, e4⟩ => ?_
  subst eo e4
  have I5 : Inv X pins σ H4 { s4 with heap := s4.heap.push { cls := .type "slice", data := .fields #[vl, vu, vs] } } := I4.kept (t' := s4.toks) fun b ob q => Heap.get?_push_of_some _ q
  have hs := Heap.IsSliceOf.new s4.heap vl vu vs
  obtain ⟨l, rfl, hl⟩ := IsPart.raw pl
  obtain ⟨u, rfl, hu⟩ := IsPart.raw pu
  obtain ⟨st, rfl, hst2⟩ := IsPart.raw ps
  obtain rfl : l = none := by cases l <;> first | rfl | cases hl
  obtain rfl : u = none := by cases u <;> first | rfl | cases hu
  obtain ⟨i, ti, rfl⟩ : ∃ (i : Int) (ti : Tok), st = some (i, ti) := by
    cases st with
    | none => cases hst2
    | some p => exact ⟨p.1, p.2, rfl⟩
  obtain rfl : i = -1 := by simpa using hst2
  show wpAny (model X.prog X.w) X.A (subscriptTail e (.Slice none none (some (.UnaryOp .USub (.Constant (.int 1) k p1) p2)) p3) (.str z t) (.ref s4.heap.objs.size)) (EP X pins σ Q) X.xe _
  refine tail_any (ops := [.str z t, .ref s4.heap.objs.size]) (typeIs_str _ _ _) (F.slot_str_getitem.lookup) ?_ (by with_unfolding_all rfl)
  refine wpAny_getItem_str_slice (l := none) (u := none) (st := some (-1, ti)) hs rfl ?_
  have e : (slicePicked z none none (some ((-1 : Int), ti))).filterMap (z.cps[·]?) = z.cps.toList.reverse := rev_picked z
  unfold sliceMade
  rw [if_neg (by simp), e]
  exact ⟨by show z.cps.toList.reverse.toArray.size ≤ sizeLine; simpa using hz, .str _, H4, I5.tok _, ⟨_, rfl⟩, q⟩
def dRev (d : Dt) : Option Dt := match d with
  | .str s => if fits s.length then some (.str s.reverse) else none
  | _ => none
section
variable {X : Cx} {W : WX} {ios : List Nat} {e : Expr} {pos p : Pos}
theorem je_rev {ca : C Ar} {k} {p1 p2 p3 : Pos} (ha : JQ X W ios e ca) : JE X W ios (.Subscript e (.Slice none none (some (.UnaryOp .USub (.Constant (.int 1) k p1) p2)) p3) pos) (c1 dRev ca) := by
  refine pe_imp (pe_revT ha) fun σ H Q ⟨F, own, ρ, hp, hE, po⟩ => ⟨F, own, ρ, hp, hE, PostR.bind anti_E po fun own1 x H1 a ρ1 g1 e1 r1 p1 => ?_⟩
  unfold bindR der at p1
  cases h1 : deref a ρ1 with
  | none => rw [h1] at p1; exact p1.elim
  | some d =>
    rw [h1] at p1
    simp only at p1
    have pk := deref_pk e1 r1 h1
    cases d with
    | str z =>
      obtain rfl := pk_str pk
      cases hz : fits z.length with
      | false => simp only [dRev, hz] at p1; exact p1.elim
      | true =>
        simp only [dRev, hz, if_true] at p1
        refine ⟨mkS z, rfl, by simpa [mkS] using fits_le hz, ?_⟩
        refine p1 own1 _ H1 Good.refl e1 ?_
        simp [repE, RepD, mkS]
    | _ => exact p1.elim
end
end DLO
end
section
set_option Elab.async false
set_option linter.all false
set_option maxRecDepth 100000
set_option maxHeartbeats 200000
namespace DLO
open PySem PySem.Spec PyProof.Rows L2 DL PySem.SeqAt
/-! ## == of tuples of two whose second things are empty dicts -/
section
variable {prog : Program} {w : World} {s : Shared} {a b : Addr}
theorem dictOf_nil {P : Program} {w0 : World} (h : s.heap.DictOf (mixKind P w0) a []) (prog : Program) (w : World) : s.heap.DictOf (mixKind prog w) a [] := by
  obtain ⟨o, es, ep, h1, h2, h3, h4, h5, h6⟩ := h
  have e : es.toList = [] := by
    cases hq : es.toList with
    | nil => rfl
    | cons x r => rw [hq] at h5; cases h5
  refine ⟨o, es, ep, h1, h2, h3, fun x hx => ?_, ?_, h6⟩
  · have : x ∈ es.toList := by simpa using hx
    rw [e] at this
    cases this
  · rw [e]
    exact .nil
theorem rcAt_nils {P : Program} {w0 : World} {A : Around} (ya : (a == sysModules) = false) (yb : (b == sysModules) = false) (da : s.heap.DictOf (mixKind P w0) a []) (db : s.heap.DictOf (mixKind P w0) b []) (hu : A.units < cLine) : RcAt A s (.ref a) (.ref b) true := by
  intro prog w E Q h
  have d1 := dictOf_nil da prog w
  have d2 := dictOf_nil db prog w
  have hh : PySem.W.KeqHits (K := Key) A.in1 s [] [] true := .nil
  show wpAny (model prog w) A (compareOp .Eq (.ref a) (.ref b)) Q E s
  exact PySem.W.keq_eq (knd := mixKind prog w) (ka := []) (kb := []) (r := true) ya yb d1 d2 hu (fun _ => hh) h
theorem rcAt_pair {A : Around} {v0 v1 u0 u1 : Value} {k0 k1 : Bool} (hl : s.heap.IsTuple a #[v0, v1]) (hb : s.heap.IsTuple b #[u0, u1]) (hu : A.units < cLine) (h0 : EqAt A.in1 s v0 u0 k0) (h1 : EqAt A.in1 s v1 u1 k1) : RcAt A s (.ref a) (.ref b) (k0 && k1) := by
  have t := RcAt.tuples (e := fun j => if j = 0 then k0 else k1) hl hb hu (fun j j1 j2 => by
    match j, j1, j2 with
    | 0, _, _ => exact h0
    | 1, _, _ => exact h1
    | j + 2, h, _ => exact absurd h (by simp))
  have e : ((List.range (min (#[v0, v1] : Array Value).size (#[u0, u1] : Array Value).size)).all (fun j => if j = 0 then k0 else k1) && (#[v0, v1] : Array Value).size == (#[u0, u1] : Array Value).size) = (k0 && k1) := by
    cases k0 <;> cases k1 <;> rfl
  rw [e] at t
  exact t
end
def rEqX (K : PySem.W.Frag) : R2 := fun x y H Q => ∃ a b m m' c c' d d', x = .ref a ∧ y = .ref b ∧ SqT K H a [m, .ref c] ∧ SqT K H b [m', .ref c'] ∧ Dp K H m d ∧ Dp K H m' d' ∧ H c = some (.dK []) ∧ H c' = some (.dK []) ∧ SeqAt.shaped d = true ∧ SeqAt.shaped d' = true ∧ Q (.bl (PyData.eqv d d')) H
theorem nil_at {X : Cx} {pins : List (Addr × Obj)} {σ : L2.St} {H : Hp} {s : Shared} {c : Addr} (I : Inv X pins σ H s) (k : H c = some (.dK [])) : (c == sysModules) = false ∧ s.heap.DictOf (mixKind X.prog X.w) c [] := by
  obtain ⟨_, ya, va, rva, da⟩ := (show ObjOk X.prog X.w H s.heap c (.dK []) from I.hok c _ k)
  cases rva
  exact ⟨ya, da⟩
theorem eqAt_nils {X : Cx} {pins : List (Addr × Obj)} {σ : L2.St} {H : Hp} {s : Shared} {c c' : Addr} {A : Around} (I : Inv X pins σ H s) (k : H c = some (.dK [])) (k' : H c' = some (.dK [])) (hu : A.units < cLine) : EqAt A s (.ref c) (.ref c') true := by
  obtain ⟨ya, da⟩ := nil_at I k
  obtain ⟨yb, db⟩ := nil_at I k'
  by_cases h : c = c'
  · subst h
    exact EqAt.same _
  · exact EqAt.of_refs h (rcAt_nils ya yb da db hu)
theorem op_eqX {X : Cx} (hu : X.A.units + 65 < cLine) : OpR X (compareOp .Eq) (rEqX X.K) := by
  intro pins s σ H x y v u Q I rx ry ⟨a, b, m, m', c, c', d, d', e1, e2, sa, sb, hm, hm', k, k', s1, s2, q⟩
  subst e1 e2
  cases rx
  cases ry
  obtain ⟨ia, ra, ta, _⟩ := I.tuple sa
  obtain ⟨ib, rb, tb, _⟩ := I.tuple sb
  cases ra with
  | cons r0 ra =>
    cases ra with
    | cons r1 ra =>
      cases ra
      cases rb with
      | cons t0 rb =>
        cases rb with
        | cons t1 rb =>
          cases rb
          cases r1
          cases t1
          obtain ⟨as, g1⟩ := Dp.reads I d m _ hm r0
          obtain ⟨bs, g2⟩ := Dp.reads I d' m' _ hm' t0
          have hu1 : X.A.units < cLine := Nat.lt_of_le_of_lt (Nat.le_add_right _ _) hu
          have hu2 : X.A.in1.units < cLine := Nat.lt_of_le_of_lt (show X.A.units + 1 ≤ X.A.units + 65 from Nat.add_le_add_left (by decide) _) hu
          have hu3 : X.A.in1.units + 64 < cLine := hu
          have h0 : EqAt X.A.in1 s _ _ (PyData.eqv d d') := eqAt_reads d d' X.A.in1 s _ _ as bs g1 g2 (canLay_of_shaped s1) (canLay_of_shaped s2) (room_of_shaped s1 hu3)
          have h1 : EqAt X.A.in1 s (.ref c) (.ref c') true := eqAt_nils I k k' hu2
          have r := rcAt_pair (a := a) (b := b) (A := X.A) ta tb hu1 h0 h1
          rw [Bool.and_true] at r
          exact r X.prog X.w _ _ ⟨.bl _, H, I, rfl, q⟩
def isE (d : Dt) : Bool := match d with
  | .dic 0 [] => true
  | _ => false
def dEqX (a b : Dt) : Option Dt := if okPy a && okPy b then some (.bl (eqvD a b)) else match a, b with
  | .tup [x, y], .tup [x', y'] => if (okPy x && okPy x') && (isE y && isE y') then some (.bl (eqvD x x')) else none
  | _, _ => none
section
variable {K : PySem.W.Frag} {mg : Str → Option Value}
theorem isE_rep {own : DL.Own} {H : Hp} {d : Dt} {x : V} (h : isE d = true) (r : RepD K mg own H d x) : ∃ c, x = .ref c ∧ H c = some (.dK []) := by
  unfold isE at h
  split at h
  · simp only [RepD] at r
    obtain ⟨c, e, _, ⟨_, q, hq, hk, _⟩ | ⟨z, _⟩⟩ := r
    · have : q = [] := by simpa using hk.symm
      subst this
      exact ⟨c, e, hq⟩
    · cases z
  · cases h
theorem opd_eqX : OpD K mg (fun x y H Q => rEqD K x y H Q ∨ rEqX K x y H Q) dEqX := by
  intro own H a b x y d Q ra rb hf h
  unfold dEqX at hf
  split at hf
  · rename_i hc
    exact .inl (opd_eq (mg := mg) own H a b x y d Q ra rb (by unfold dEq; rw [if_pos hc]; exact hf) h)
  · split at hf
    · rename_i p q p' q' hno
      split at hf
      · rename_i hc
        cases hf
        obtain ⟨h1, h2⟩ := Bool.and_eq_true_iff.mp hc
        obtain ⟨h3, h4⟩ := Bool.and_eq_true_iff.mp h1
        obtain ⟨h5, h6⟩ := Bool.and_eq_true_iff.mp h2
        obtain ⟨z, xs, e1, _, k1, l1⟩ := pk_tup ra
        obtain ⟨z', xs', e2, _, k2, l2⟩ := pk_tup rb
        simp only [RepL] at l1 l2
        obtain ⟨m, _, e3, rm, n, _, e4, rn, e5⟩ := l1
        obtain ⟨m', _, e3', rm', n', _, e4', rn', e5'⟩ := l2
        subst e5 e4 e3 e5' e4' e3'
        obtain ⟨c, en, kc⟩ := isE_rep h5 rn
        obtain ⟨c', en', kc'⟩ := isE_rep h6 rn'
        subst en en'
        obtain ⟨dp, f1, s1⟩ := okPy_some h3
        obtain ⟨dp', f2, s2⟩ := okPy_some h4
        refine .inr ⟨z, z', m, m', c, c', dp, dp', e1, e2, SqT.of k1, SqT.of k2, dp_of rm f1, dp_of rm' f2, kc, kc', s1, s2, ?_⟩
        have : eqvD p p' = PyData.eqv dp dp' := by unfold eqvD; rw [f1, f2]
        rw [← this]
        exact flat_end h (rep_bl _)
      · cases hf
    · cases hf
end
section
variable {X : Cx} {W : WX} {ios : List Nat} {a b : Expr} {pos : Pos} {ca cb : C Ar}
theorem je_eqX (hu : X.A.units + 65 < cLine) (ha : JQ X W ios a ca) (hb : JQ X W ios b cb) : JE X W ios (.Compare a [.Eq] [b] pos) (c2 dEqX ca cb) := je_cmp ((op_eqD (by omega)).or (op_eqX hu)) opd_eqX ha hb (nomark _)
theorem jt_eqX (hu : X.A.units + 65 < cLine) (ha : JQ X W ios a ca) (hb : JQ X W ios b cb) : JT X W ios (.Compare a [.Eq] [b] pos) (isBl (c2 dEqX ca cb)) := jt_cmp ((op_eqD (by omega)).or (op_eqX hu)) opd_eqX ha hb (nomark _)
end
end DLO
end
section
set_option Elab.async false
set_option linter.all false
set_option maxRecDepth 100000
set_option maxHeartbeats 4000000
namespace DLO
open PySem PySem.Spec PyProof.Rows L2 DL
/-- no built-in type is below C, and C has object's `__ne__` -/
def ownB (K : PySem.W.Frag) (C : Addr) : Bool := ["str", "int", "bool", "NoneType", "list", "tuple"].all (fun t => decide (PySem.W.subIn K (.type t) (.ref C) = some false)) && (He.eqO (PySem.W.findIn K (.ref C) "__ne__") (some (some (.builtin "object.__ne__"))) && decide (PySem.W.subIn K (.ref C) (.type "object") = some true))
theorem ownK_of {K : PySem.W.Frag} {mg : Str → Option Value} {c : Str} {C0 : Addr} (hm : mg c = some (.ref C0)) (h : ownB K C0 = true) : ∀ C, mg c = some (.ref C) → NoSub K C ∧ NoNe K C := fun C e => by
  rw [hm] at e
  cases e
  unfold ownB at h
  obtain ⟨h1, h2⟩ := Bool.and_eq_true_iff.mp h
  obtain ⟨h3, h4⟩ := Bool.and_eq_true_iff.mp h2
  have g : ∀ t ∈ ["str", "int", "bool", "NoneType", "list", "tuple"], PySem.W.subIn K (.type t) (.ref C0) = some false := fun t ht => of_decide_eq_true (List.all_eq_true.mp h1 t ht)
  exact ⟨⟨g _ (by simp), g _ (by simp), g _ (by simp), g _ (by simp), g _ (by simp), g _ (by simp)⟩, ⟨He.eqO_ok h3, of_decide_eq_true h4⟩⟩
end DLO
end
section
set_option Elab.async false
set_option linter.all false
set_option maxRecDepth 100000
set_option maxHeartbeats 400000
namespace DLO
open PySem PySem.Spec PyProof.Rows L2 DL
/-! ## own comparisons as tests -/
section
variable {X : Cx} {W : WX} {ios : List Nat} {e a b o : Expr} {pos : Pos}
theorem jt_inO {c : Str} {k : Nat} {fn : Fn} {ca cb : C Ar} (D : Do X.prog X.w X.K X.mg X.base c "__contains__" k 2 fn) (hr : Room k X.A) (tk : Takes X W) (ha : JQ X W ios a ca) (hb' : JQ X W ios b cb) (hm' : behindInMarks .In b = false := by rfl) :
    JT X W ios (.Compare a [.In] [b] pos) (isBl (cInO false c fn ca cb)) := by
  obtain ⟨C, f, fd, ps, hC, hm, hfi, F, hb⟩ := D.ex
  have h := pt_cmpS (pos := pos) (r := rOwn2r C (spD X.K X.mg 2 [] fn) (fun σ => WE W σ) (inK false)) (opRS_in (E := fun σ => WE W σ) hm F hr hb fun σ => passAt tk σ) ha hb' hm'
  refine pt_imp h fun σ H Q q => ?_
  obtain ⟨F, own, ρ, hp, he, po⟩ := post_bl q
  exact own2r_end (g := inK false) hp hC he (in_end po)
theorem jt_notInO {c : Str} {k : Nat} {fn : Fn} {ca cb : C Ar} (D : Do X.prog X.w X.K X.mg X.base c "__contains__" k 2 fn) (hr : Room k X.A) (tk : Takes X W) (ha : JQ X W ios a ca) (hb' : JQ X W ios b cb) (hm' : behindInMarks .NotIn b = false := by rfl) :
    JT X W ios (.Compare a [.NotIn] [b] pos) (isBl (cInO true c fn ca cb)) := by
  obtain ⟨C, f, fd, ps, hC, hm, hfi, F, hb⟩ := D.ex
  have h := pt_cmpS (pos := pos) (r := rOwn2r C (spD X.K X.mg 2 [] fn) (fun σ => WE W σ) (inK true)) (opRS_notIn (E := fun σ => WE W σ) hm F hr hb fun σ => passAt tk σ) ha hb' hm'
  refine pt_imp h fun σ H Q q => ?_
  obtain ⟨F, own, ρ, hp, he, po⟩ := post_bl q
  exact own2r_end (g := inK true) hp hC he (in_end po)
theorem jt_eqO {c : Str} {k : Nat} {fn : Fn} {ca cb : C Ar} (D : Do X.prog X.w X.K X.mg X.base c "__eq__" k 2 fn) (N : ∀ C, X.mg c = some (.ref C) → NoSub X.K C) (hr : Room k X.A) (tk : Takes X W) (ha : JQ X W ios a ca) (hb' : JQ X W ios b cb) (hm' : behindInMarks .Eq b = false := by rfl) :
    JT X W ios (.Compare a [.Eq] [b] pos) (isBl (bindR (cOwnE c fn ca cb) DLO.eqT)) := by
  obtain ⟨C, f, fd, ps, hC, hm, hfi, F, hb⟩ := D.ex
  have h := pt_cmpS (pos := pos) (opRS_eqA (E := fun σ => WE W σ) hm (N C hC) F hr hb fun σ => passAt tk σ) ha hb' hm'
  refine pt_imp h fun σ H Q q => ?_
  obtain ⟨F, own, ρ, hp, he, po⟩ := post_bl q
  exact ownE_end (g := eqK) hp hC he (eq_end po)
theorem jt_neO {c : Str} {k : Nat} {fn : Fn} {ca cb : C Ar} (D : Do X.prog X.w X.K X.mg X.base c "__eq__" k 2 fn) (N : ∀ C, X.mg c = some (.ref C) → NoSub X.K C ∧ NoNe X.K C) (hr : Room (k + 1) X.A) (tk : Takes X W) (ha : JQ X W ios a ca) (hb' : JQ X W ios b cb) (hm' : behindInMarks .NotEq b = false := by rfl) :
    JT X W ios (.Compare a [.NotEq] [b] pos) (isBl (bindR (cOwnE c fn ca cb) DLO.neT)) := by
  obtain ⟨C, f, fd, ps, hC, hm, hfi, F, hb⟩ := D.ex
  have h := pt_cmpS (pos := pos) (opRS_neA (E := fun σ => WE W σ) hm (N C hC).1 (N C hC).2 F hr hb fun σ => passAt tk σ) ha hb' hm'
  refine pt_imp h fun σ H Q q => ?_
  obtain ⟨F, own, ρ, hp, he, po⟩ := post_bl q
  exact ownE_end (g := neK) hp hC he (ne_end po)
end
end DLO
end
section
set_option Elab.async false
set_option linter.all false
set_option maxRecDepth 100000
set_option maxHeartbeats 400000
namespace DLO
open PySem PySem.Spec PyProof.Rows L2 DL
/-! ## isinstance of an own class, by the written part -/
def insB (K : PySem.W.Frag) (C : Addr) : Bool := He.eqO (PySem.W.findIn K (.ref C) "__class__") (some (some (.builtin "object.__class__"))) && (He.eqO (PySem.W.specialIn K (.builtin "object.__class__") "__get__") (some (some (.builtin "getset_descriptor.__get__"))) &&
  (decide (PySem.W.takesIn K (.builtin "object.__class__") = some true) && decide (PySem.W.mroIn K C (.type "object") = some true)))
def isB (K : PySem.W.Frag) (C : Addr) (bs : List (String × Bool)) (cs : List (Str × Bool)) : Bool := (bs.all fun p => decide (PySem.W.kitOne K (.type p.1) (.ref C) = some p.2)) && cs.all fun p => insB K (He.ga K p.1) && decide (PySem.W.kitOne K (.ref (He.ga K p.1)) (.ref C) = some p.2)
section
variable {K : PySem.W.Frag} {mg : Str → Option Value}
def ICl (K : PySem.W.Frag) (mg : Str → Option Value) (cs : List (Str × Bool)) : Prop := ∀ p ∈ cs, mg p.1 = some (.ref (He.ga K p.1)) ∧ Cls K (He.ga K p.1)
theorem icl_nil : ICl K mg [] := fun p h => by cases h
theorem icl_cons {c : Str} {b : Bool} {cs : List (Str × Bool)} (hm : mg c = some (.ref (He.ga K c))) (cl : Cls K (He.ga K c)) (r : ICl K mg cs) : ICl K mg ((c, b) :: cs) := fun p h => by
  rcases List.mem_cons.mp h with h | h
  · subst h; exact ⟨hm, cl⟩
  · exact r p h
theorem look_mem {α β : Type} [BEq α] [LawfulBEq α] {a : α} {b : β} : ∀ {l : List (α × β)}, l.lookup a = some b → (a, b) ∈ l
  | [], h => by cases h
  | (c, d) :: r, h => by
    rw [List.lookup_cons] at h
    cases e : a == c with
    | true =>
      rw [e] at h
      cases h
      rw [eq_of_beq e]
      exact List.mem_cons_self
    | false =>
      rw [e] at h
      exact List.mem_cons_of_mem _ (look_mem h)
theorem isx_of {t : Str} {C : Addr} {bs : List (String × Bool)} {cs : List (Str × Bool)} (hm : mg t = some (.ref C)) (h : isB K C bs cs = true) (hc : ICl K mg cs) : ∃ C, mg t = some (.ref C) ∧ IsT K mg (.ref C) bs cs := by
  obtain ⟨h1, h2⟩ := Bool.and_eq_true_iff.mp h
  refine ⟨C, hm, fun a b e => of_decide_eq_true (List.all_eq_true.mp h1 (a, b) (look_mem e)), fun c b D e eD => ?_⟩
  have m := look_mem e
  obtain ⟨e1, cl⟩ := hc _ m
  rw [eD] at e1
  cases e1
  obtain ⟨h3, h4⟩ := Bool.and_eq_true_iff.mp (List.all_eq_true.mp h2 (c, b) m)
  obtain ⟨g1, h3⟩ := Bool.and_eq_true_iff.mp h3
  obtain ⟨g2, h3⟩ := Bool.and_eq_true_iff.mp h3
  obtain ⟨g3, g4⟩ := Bool.and_eq_true_iff.mp h3
  exact ⟨⟨cl, He.eqO_ok g1, He.eqO_ok g2, of_decide_eq_true g3, of_decide_eq_true g4⟩, of_decide_eq_true h4⟩
end
end DLO
end
section
set_option Elab.async false
set_option linter.all false
set_option maxRecDepth 100000
set_option maxHeartbeats 4000000
namespace DG
open PySem PySem.Spec PyProof.Rows L2 DL DLO
theorem atI_0 {α : Type} {x : α} {r : List α} : atI (x :: r) 0 = some x := by unfold atI ixN; simp
theorem atI_nat {α : Type} {l : List α} {k : Nat} (h : k < l.length) : atI l (k : Int) = some l[k] := by
  unfold atI ixN
  rw [if_pos (Int.natCast_nonneg k), if_pos (by omega)]
  show l[(k : Int).toNat]? = _
  rw [Int.toNat_natCast, List.getElem?_eq_getElem h]
theorem atI_1 {α : Type} {x y : α} {r : List α} : atI (x :: y :: r) 1 = some y := atI_nat (k := 1) (by simp)
theorem atI_2 {α : Type} {x y z : α} {r : List α} : atI (x :: y :: z :: r) 2 = some z := atI_nat (k := 2) (by simp)
theorem ixN_0 : ixN 3 0 = some 0 := by decide
theorem ixN_2 : ixN 3 2 = some 2 := by decide
theorem seqS_next {a b : S} {ρ ρ' : Rho} (h : a ρ = .next ρ') : seqS a b ρ = b ρ' := by unfold seqS; rw [h]
theorem setS_ok {i : Nat} {c : C Dt} {ρ ρ' : Rho} {d : Dt} (h : c ρ = .ok d ρ') : setS i c ρ = .next (ρ'.set i (some (.v d))) := by unfold setS bindS; rw [h]; rfl
theorem setF_ok {i : Nat} {c : C Tr} {ρ ρ' : Rho} {d : Tr} (h : c ρ = .ok d ρ') : setF i c ρ = .next (ρ'.set i (some d)) := by unfold setF bindS; rw [h]; rfl
theorem okPy_str {s : List Nat} (h : ∀ c ∈ s, c < 1000) : okPy (.str s) = true := by
  have : PyData.strOk (mkS s) = true := by
    unfold PyData.strOk
    simp only [mkS, Array.all_eq_true]
    intro i hi
    have hi' : i < s.length := by simpa using hi
    have := h s[i] (List.getElem_mem hi')
    simp
    omega
  simp [okPy, toPy, SeqAt.shaped, PyData.canLay0, PyData.depth, this]
theorem eqvD_str (s t : List Nat) : eqvD (.str s) (.str t) = decide (s = t) := by
  have : (mkS s == mkS t) = decide (s = t) := by
    rw [Bool.eq_iff_iff]
    simp only [beq_iff_eq, decide_eq_true_eq]
    exact ⟨fun h => mkS_inj h, fun h => by rw [h]⟩
  simp [eqvD, toPy, PyData.eqv, this]
abbrev sg (c : Nat) : Dt := .str [c]
theorem lc_step {vs : List Nat} {g : G} {ct : C Bool} {ce : C Dt} {d y : Dt} {ds acc : List Dt} {ρ ρ1 ρ2 ρ3 : Rho} (h1 : g d ρ = some ρ1) (h2 : ct ρ1 = .ok true ρ2) (h3 : ce ρ2 = .ok y ρ3) (hz : acc.length < sizeLine) : lcLoop vs g ct ce (d :: ds) acc ρ = lcLoop vs g ct ce ds (acc ++ [y]) (wipeR ρ3 vs) := by
  rw [lcLoop, h1]
  simp only [h2, h3, if_pos hz]
theorem lc_skip {vs : List Nat} {g : G} {ct : C Bool} {ce : C Dt} {d : Dt} {ds acc : List Dt} {ρ ρ1 ρ2 : Rho} (h1 : g d ρ = some ρ1) (h2 : ct ρ1 = .ok false ρ2) : lcLoop vs g ct ce (d :: ds) acc ρ = lcLoop vs g ct ce ds acc (wipeR ρ2 vs) := by
  rw [lcLoop, h1]
  simp only [h2]
theorem strs_sg (l : List Nat) : strsOf (l.map fun c => sg c) = some (l.map fun c => [c]) := by
  induction l with
  | nil => rfl
  | cons c l ih => simp only [List.map_cons, strsOf, ih]; rfl
theorem join_sg (l : List Nat) : joinD [] (l.map fun c => [c]) = l := by
  induction l with
  | nil => rfl
  | cons c l ih =>
    cases l with
    | nil => rfl
    | cons d l =>
      show [c] ++ [] ++ joinD [] ((d :: l).map fun c => [c]) = c :: d :: l
      rw [ih]
      rfl
theorem lens_sg (l : List Nat) : ((l.map fun c => [c]).map (·.length)).sum = l.length := by
  induction l with
  | nil => rfl
  | cons c l ih => simp only [List.map_cons, List.sum_cons, ih, List.length_cons, List.length_nil]; omega
theorem dJoin_sg (l : List Nat) (h : l.length ≤ 1000) : dJoin [] (.lst (l.map fun c => sg c)) = some (.str l) := by
  simp only [dJoin, strs_sg, lens_sg, join_sg, List.length_nil]
  rw [if_pos (by omega)]
theorem fits_s {n : Nat} (h : n ≤ 100000) : fits n = true := by unfold fits; rw [sizeLine_eq]; exact decide_eq_true (by omega)
abbrev alph : List Nat := [97, 98, 99, 100, 101, 102, 103, 104, 105, 106, 107, 108, 109, 110, 111, 112, 113, 114, 115, 116, 117, 118, 119, 120, 121, 122]
theorem s62 {n : Nat} (h : n ≤ 100000) : small62 (n : Int) = true := by
  simp [small62]
  omega
theorem bind_lift {α β : Type} {f : α → Option β} {c : C α} {a : α} {b : β} {ρ ρ' : Rho} (h : c ρ = .ok a ρ') (h2 : f a = some b) : bindR c (fun x => lift (f x)) ρ = .ok b ρ' := by
  unfold bindR lift
  rw [h]
  simp only [h2]
theorem bind_ok {α β : Type} {k : α → C β} {c : C α} {a : α} {ρ ρ' : Rho} (h : c ρ = .ok a ρ') : bindR c k ρ = k a ρ' := by
  unfold bindR
  rw [h]
theorem rng1 {n : Nat} (h : small62 (n : Int) = true) : rangeD1 [.int (n : Nat)] = some (rangeL 0 n) := by
  simp [rangeD1, h]
theorem rng_of {n : Nat} {c : C (List Dt)} {ρ ρ' : Rho} (hn : n ≤ 100000) (h : c ρ = .ok [.int (n : Nat)] ρ') : cRng1 c ρ = .ok (rangeL 0 n) ρ' := bind_lift h (rng1 (s62 hn))
theorem rangeL_map {n : Nat} : rangeL 0 n = ((List.range n).map fun k => (0 : Int) + (k : Nat)).map Dt.int := by
  unfold rangeL
  rw [List.map_map]
  rfl
theorem forS_ok {ci : C (List Dt)} {g : G} {body : S} {ρ ρ1 : Rho} {ds : List Dt} (h : ci ρ = .ok ds ρ1) : forS ci g body ρ = loopD g body ds ρ1 := by
  unfold forS bindS
  rw [h]
theorem runF_ret {c : S} {n N : Nat} {ts : List Tr} {t : Tr} {ρ0 ρ : Rho} (h : c ρ0 = .ret t ρ) (e : ts.map some ++ List.replicate (N - ts.length) none = ρ0) : runF n N c ts = .ret t (ρ.take n) := by
  unfold runF
  rw [e, h]
theorem runF_next {c : S} {n N : Nat} {ts : List Tr} {ρ0 ρ : Rho} (h : c ρ0 = .next ρ) (e : ts.map some ++ List.replicate (N - ts.length) none = ρ0) : runF n N c ts = .ret (.v .non) (ρ.take n) := by
  unfold runF
  rw [e, h]
theorem runF_exc {c : S} {n N : Nat} {ts : List Tr} {x : Dx} {ρ0 ρ : Rho} (h : c ρ0 = .exc x ρ) (e : ts.map some ++ List.replicate (N - ts.length) none = ρ0) : runF n N c ts = .exc x (ρ.take n) := by
  unfold runF
  rw [e, h]
theorem mt1_ok {f : List Nat → Dt → Option Dt} {co ca : C Dt} {s : List Nat} {b d : Dt} {ρ ρ1 ρ2 : Rho} (h1 : co ρ = .ok (.str s) ρ1) (h2 : ca ρ1 = .ok b ρ2) (h3 : f s b = some d) : DL.mt1 f co ca ρ = .ok d ρ2 := by
  unfold DL.mt1
  rw [bind_ok h1]
  exact bind_lift h2 h3
theorem frz_ok {c : C Tr} {t : Tr} {ρ ρ' : Rho} (h : c ρ = .ok t ρ') : frz c ρ = .ok t.fz ρ' := by unfold frz; rw [h]
theorem retS_ok {c : C Dt} {d : Dt} {ρ ρ' : Rho} (h : c ρ = .ok d ρ') : retS c ρ = .ret (.v d) ρ' := by unfold retS bindS; rw [h]
theorem retF_ok {c : C Tr} {d : Tr} {ρ ρ' : Rho} (h : c ρ = .ok d ρ') : retF c ρ = .ret d ρ' := by unfold retF bindS; rw [h]
theorem ifS_ok {c : C Bool} {b : Bool} {t u : S} {ρ ρ' : Rho} (h : c ρ = .ok b ρ') : ifS c t u ρ = (if b then t else u) ρ' := by unfold ifS bindS; rw [h]
section
variable {ρ ρ1 ρ2 ρ3 : Rho} {x y : Ar} {p q d : Dt} {i : Nat} {t : Tr}
theorem slot_ok (h : ρ[i]? = some (some t)) : cSlot i ρ = .ok (.sl i) ρ := by unfold cSlot; rw [h]
theorem var_ok (h : ρ[i]? = some (some (.v d))) : cVar i ρ = .ok d ρ := by
  unfold cVar
  rw [h]
  have : ρ.set i (some (.v (Tr.v d).fz)) = ρ := List.ext_getElem? fun j => by
    by_cases hj : i = j
    · subst hj
      rw [List.getElem?_set_self (List.getElem?_eq_some_iff.mp h).1, h]
      rfl
    · rw [List.getElem?_set_ne hj]
  show Res.ok d (ρ.set i (some (.v (Tr.v d).fz))) = _
  rw [this]
theorem cD_ok {c : C Dt} (h : c ρ = .ok d ρ1) : cD c ρ = .ok (.d d) ρ1 := by unfold cD; rw [bind_ok h]; rfl
theorem der_ok (h : deref x ρ = some p) : der x ρ = .ok p ρ := by unfold der; rw [h]
theorem c1_ok {f : Dt → Option Dt} {ca : C Ar} (ha : ca ρ = .ok x ρ1) (hx : deref x ρ1 = some p) (hf : f p = some d) : c1 f ca ρ = .ok d ρ1 := by
  unfold c1
  rw [bind_ok ha]
  exact bind_lift (der_ok hx) hf
theorem c2_ok {f : Dt → Dt → Option Dt} {ca cb : C Ar} (ha : ca ρ = .ok x ρ1) (hb : cb ρ1 = .ok y ρ2) (hx : deref x ρ2 = some p) (hy : deref y ρ2 = some q) (hf : f p q = some d) : c2 f ca cb ρ = .ok d ρ2 := by
  unfold c2
  rw [bind_ok ha, bind_ok hb, bind_ok (der_ok hx)]
  exact bind_lift (f := fun q => f p q) (der_ok hy) hf
theorem dsl (h : ρ[i]? = some (some t)) : deref (.sl i) ρ = some t.fz := by unfold deref; simp only [h]
theorem dd : deref (.d d) ρ = some d := rfl
theorem isBl_ok {c : C Dt} {b : Bool} (h : c ρ = .ok (.bl b) ρ1) : isBl c ρ = .ok b ρ1 := by unfold isBl; exact bind_ok h
theorem tru_ok {c : C Ar} {b : Bool} (h : c ρ = .ok x ρ1) (hx : deref x ρ1 = some p) (hf : truD p = some b) : cTru c ρ = .ok b ρ1 := by
  unfold cTru
  rw [bind_ok h]
  exact bind_lift (der_ok hx) hf
theorem not_ok {c : C Bool} {b : Bool} (h : c ρ = .ok b ρ1) : cNotB c ρ = .ok (!b) ρ1 := by unfold cNotB; exact bind_ok h
theorem orB_f {ca cb : C Bool} (h : ca ρ = .ok false ρ1) : cOrB ca cb ρ = cb ρ1 := by unfold cOrB; exact bind_ok h
theorem fld_ok {cs : List Str} {f : Str} {c : C Ar} (h : c ρ = .ok x ρ1) (hx : deref x ρ1 = some p) (hf : dFld cs f p = some d) : cFld cs f c ρ = .ok d ρ1 := by
  unfold cFld
  rw [bind_ok h]
  exact bind_lift (f := dFld cs f) (der_ok hx) hf
theorem call_ret {n : Nat} {ios : List Nat} {m : Fn} {ca : C (List Ar)} {args : List Ar} {ts : List Tr} {tq : List (Option Tr)} (ha : ca ρ = .ok args ρ1) (ht : argTs ρ1 args = some ts) (hc : args.length = n ∧ slotsOk ios args args 0 = true ∧ ios.all (· < n) = true) (hm : m ts = .ret t tq) : cCall n ios m ca ρ = .ok t (backR tq args 0 ρ1) := by
  unfold cCall
  rw [bind_ok ha]
  unfold callR
  rw [ht]
  simp only [if_pos hc, hm]
theorem call_exc {n : Nat} {ios : List Nat} {m : Fn} {ca : C (List Ar)} {args : List Ar} {ts : List Tr} {tq : List (Option Tr)} {z : Dx} (ha : ca ρ = .ok args ρ1) (ht : argTs ρ1 args = some ts) (hc : args.length = n ∧ slotsOk ios args args 0 = true ∧ ios.all (· < n) = true) (hm : m ts = .exc z tq) : cCall n ios m ca ρ = .exc z (backR tq args 0 ρ1) := by
  unfold cCall
  rw [bind_ok ha]
  unfold callR
  rw [ht]
  simp only [if_pos hc, hm]
theorem meth_ret {c m : Str} {n : Nat} {ios : List Nat} {fn : Fn} {co : C Ar} {ca : C (List Ar)} {args : List Ar} {ts : List Tr} {tq : List (Option Tr)} (ho : co ρ = .ok x ρ1) (hx : deref x ρ1 = some p) (hi : isOf c m p = true) (ha : ca ρ1 = .ok args ρ2) (ht : argTs ρ2 (x :: args) = some ts) (hc : (x :: args).length = n ∧ slotsOk ios (x :: args) (x :: args) 0 = true ∧ ios.all (· < n) = true) (hm : fn ts = .ret t tq) : cMeth c m n ios fn co ca ρ = .ok t (backR tq (x :: args) 0 ρ2) := by
  unfold cMeth
  rw [bind_ok ho, bind_ok (der_ok hx), if_pos hi, bind_ok ha]
  unfold callR
  rw [ht]
  simp only [if_pos hc, hm]
theorem meth_exc {c m : Str} {n : Nat} {ios : List Nat} {fn : Fn} {co : C Ar} {ca : C (List Ar)} {args : List Ar} {ts : List Tr} {tq : List (Option Tr)} {z : Dx} (ho : co ρ = .ok x ρ1) (hx : deref x ρ1 = some p) (hi : isOf c m p = true) (ha : ca ρ1 = .ok args ρ2) (ht : argTs ρ2 (x :: args) = some ts) (hc : (x :: args).length = n ∧ slotsOk ios (x :: args) (x :: args) 0 = true ∧ ios.all (· < n) = true) (hm : fn ts = .exc z tq) : cMeth c m n ios fn co ca ρ = .exc z (backR tq (x :: args) 0 ρ2) := by
  unfold cMeth
  rw [bind_ok ho, bind_ok (der_ok hx), if_pos hi, bind_ok ha]
  unfold callR
  rw [ht]
  simp only [if_pos hc, hm]
theorem cons_ok {c : C Dt} {r : C (List Dt)} {ds : List Dt} (h : c ρ = .ok d ρ1) (hr : r ρ1 = .ok ds ρ2) : cCons c r ρ = .ok (d :: ds) ρ2 := by unfold cCons; rw [bind_ok h, bind_ok hr]; rfl
theorem acons_ok {c : C Ar} {r : C (List Ar)} {ds : List Ar} (h : c ρ = .ok x ρ1) (hr : r ρ1 = .ok ds ρ2) : aCons c r ρ = .ok (x :: ds) ρ2 := by unfold aCons; rw [bind_ok h, bind_ok hr]; rfl
end
theorem cSl_ok {ca : C Ar} {cl ch : C (Option Int)} {x : Ar} {l u : Option Int} {p d : Dt} {ρ ρ1 ρ2 ρ3 : Rho} (h1 : ca ρ = .ok x ρ1) (h2 : cl ρ1 = .ok l ρ2) (h3 : ch ρ2 = .ok u ρ3) (hx : deref x ρ3 = some p) (hf : dSl p l u = some d) : cSl ca cl ch ρ = .ok d ρ3 :=
  (bind_ok h1).trans ((bind_ok h2).trans ((bind_ok h3).trans (bind_lift (f := fun d => dSl d l u) (der_ok hx) hf)))
theorem part_ok {c : C Dt} {i : Int} {ρ ρ1 : Rho} (h : c ρ = .ok (.int i) ρ1) : cPart c ρ = .ok (some i) ρ1 := bind_ok h
theorem mul_n {t : Nat} {l : List Nat} (ht : t ≤ 10) (hl : l.length ≤ 1000) : dMul (.str l) (.int (t : Nat)) = some (.str (repS t l)) := by
  have hm : l.length * t ≤ 1000 * 10 := Nat.mul_le_mul hl ht
  show (if (decide (0 ≤ (t : Int)) && decide ((t : Int) ≤ 1000000) && fits (l.length * (t : Int).toNat)) = true then some (Dt.str (repS (t : Int).toNat l)) else none) = _
  rw [Int.toNat_natCast, decide_eq_true (by omega), decide_eq_true (by omega), fits_s (by omega)]
  rfl
theorem cut_drop {α : Type} {xs : List α} {r : Nat} : DL.cutD xs (some (r : Int)) none = xs.drop r := by
  unfold DL.cutD
  rw [HT.sIx_nat, HT.sIx_none, List.take_of_length_le (by rw [List.length_drop]; omega)]
  rcases Nat.le_total r xs.length with h | h
  · rw [Nat.min_eq_left h]
  · rw [Nat.min_eq_right h, List.drop_length, List.drop_eq_nil_of_le h]
theorem sl_drop {s : List Nat} {r : Nat} (h : s.length ≤ 1000) : dSl (.str s) (some (r : Int)) none = some (.str (s.drop r)) := by
  show (if fits s.length = true then some (Dt.str (DL.cutD s (some (r : Int)) none)) else none) = _
  rw [if_pos (fits_s (by omega)), cut_drop]
theorem lst_ok {c : C (List Dt)} {ds : List Dt} {ρ ρ1 : Rho} (h : c ρ = .ok ds ρ1) (hz : ds.length ≤ 1000) : cLst c ρ = .ok (.o (.lst ds)) ρ1 :=
  bind_lift (f := fun (ds : List Dt) => if fits ds.length = true then some (Tr.o (.lst ds)) else none) h (if_pos (fits_s (by omega)))
theorem tup_ok {c : C (List Dt)} {ds : List Dt} {ρ ρ1 : Rho} (h : c ρ = .ok ds ρ1) (hz : ds.length ≤ 1000) : cTup c ρ = .ok (.tup ds) ρ1 :=
  bind_lift (f := fun (ds : List Dt) => if fits ds.length = true then some (Dt.tup ds) else none) h (if_pos (fits_s (by omega)))
theorem add_str {s t : List Nat} (h : s.length + t.length ≤ 1000) : dAdd (.str s) (.str t) = some (.str (s ++ t)) := by
  show (if fits (s.length + t.length) = true then some (Dt.str (s ++ t)) else none) = _
  rw [if_pos (fits_s (by omega))]
theorem add_lst {s t : List Dt} (h : s.length + t.length ≤ 1000) : dAdd (.lst s) (.lst t) = some (.lst (s ++ t)) := by
  show (if fits (s.length + t.length) = true then some (Dt.lst (s ++ t)) else none) = _
  rw [if_pos (fits_s (by omega))]
theorem len_str {s : List Nat} (h : s.length ≤ 1000) : dLen (.str s) = some (.int s.length) := by
  have := fits_s (n := s.length) (by omega)
  simp [dLen, this]
theorem loop_cons {g : G} {body : S} {d : Dt} {ds : List Dt} {ρ ρ1 ρ2 : Rho} (h1 : g d ρ = some ρ1) (h2 : body ρ1 = .next ρ2) : loopD g body (d :: ds) ρ = loopD g body ds ρ2 := by
  rw [loopD, h1]
  simp only [h2]
theorem loop_nil {g : G} {body : S} {ρ : Rho} : loopD g body [] ρ = .next ρ := rfl
theorem dLt_nat {a b : Nat} : dLt (.int (a : Nat)) (.int (b : Nat)) = some (.bl (decide (a < b))) := by
  show (if true = true then some (Dt.bl (decide ((a : Int) < (b : Int)))) else none) = _
  rw [if_pos rfl]
  congr 2
  rw [Bool.eq_iff_iff]
  simp
theorem if_ok {α : Type} {ct : C Bool} {ca cb : C α} {b : Bool} {ρ ρ' : Rho} (h : ct ρ = .ok b ρ') : cIf ct ca cb ρ = (if b then ca else cb) ρ' := by
  unfold cIf
  exact bind_ok h
theorem exprS_ok {c : C Dt} {d : Dt} {ρ ρ' : Rho} (h : c ρ = .ok d ρ') : exprS c ρ = .next ρ' := by unfold exprS bindS; rw [h]; rfl
theorem exprS_exc {c : C Dt} {x : Dx} {ρ ρ' : Rho} (h : c ρ = .exc x ρ') : exprS c ρ = .exc x ρ' := by unfold exprS bindS; rw [h]
theorem frz_exc {c : C Tr} {x : Dx} {ρ ρ' : Rho} (h : c ρ = .exc x ρ') : frz c ρ = .exc x ρ' := by unfold frz; rw [h]
theorem seqS_exc {a b : S} {ρ ρ' : Rho} {x : Dx} (h : a ρ = .exc x ρ') : seqS a b ρ = .exc x ρ' := by unfold seqS; rw [h]
theorem dec_str {u : List Nat} (h : ∀ c ∈ u, c < 1000) (v : List Nat) (hv : ∀ c ∈ v, c < 1000) : dEq (.str u) (.str v) = some (.bl (decide (u = v))) := by
  unfold dEq
  rw [okPy_str h, okPy_str hv, eqvD_str]
  simp
theorem ne_same {s : List Nat} (h : ∀ c ∈ s, c < 1000) : dNe (.str s) (.str s) = some (.bl false) := by
  unfold dNe
  rw [okPy_str h, eqvD_str]
  simp
theorem ded_nodup : ∀ {l acc : List Nat}, (acc ++ l).Nodup → l.foldl ded acc = acc ++ l
  | [], acc, _ => by simp
  | c :: l, acc, h => by
    have hc : c ∉ acc := fun z => by
      have := (List.nodup_append.mp h).2.2 c z c List.mem_cons_self
      exact this rfl
    have h' : (acc ++ [c] ++ l).Nodup := by rw [List.append_assoc]; exact h
    simp only [List.foldl_cons]
    rw [show ded acc c = acc ++ [c] by unfold ded; rw [if_neg hc], ded_nodup h', List.append_assoc]
    rfl
theorem dc_step {vs : List Nat} {g : G} {ct : C Bool} {ck cv : C Dt} {d k y : Dt} {ds : List Dt} {acc : List (Dt × Dt)} {ρ ρ1 ρ2 ρ3 ρ4 : Rho} (h1 : g d ρ = some ρ1) (h2 : ct ρ1 = .ok true ρ2) (h3 : ck ρ2 = .ok k ρ3) (h4 : cv ρ3 = .ok y ρ4) (hz : acc.length < sizeLine ∧ (keyOf k).isSome = true) : dcLoop vs g ct ck cv (d :: ds) acc ρ = dcLoop vs g ct ck cv ds (dput acc k y) (wipeR ρ4 vs) := by
  rw [dcLoop, h1]
  simp only [h2, h3, h4, if_pos hz]
theorem fldS_ok {cs : List Str} {i : Nat} {f c : Str} {cv : C Dt} {v : Dt} {fs : List (Str × Dt)} {ρ ρ1 : Rho} (h : cv ρ = .ok v ρ1) (hi : ρ1[i]? = some (some (.o (.obj c fs)))) (hc : c ∈ cs ∧ fs.length < 900) : fldS cs i f cv ρ = .next (ρ1.set i (some (.o (.obj c (putD f v fs))))) := by
  unfold fldS bindS
  rw [h]
  simp only [hi, if_pos hc]
  rfl
theorem lc_map {k : Nat} {ce : C Dt} {ρ : Rho} {f : Dt → Dt} (hk : ρ.set k none = ρ) : ∀ (ds acc : List Dt), (∀ d ∈ ds, ce (setR ρ k (.v d)) = .ok (f d) (setR ρ k (.v d))) → acc.length + ds.length ≤ 1000 → lcLoop [k] (gNm k) (DL.ret true) ce ds acc ρ = .ok (acc ++ ds.map f) ρ
  | [], acc, _, _ => by rw [lcLoop, List.map_nil, List.append_nil]
  | d :: ds, acc, h, hz => by
    simp only [List.length_cons] at hz
    rw [lc_step (vs := [k]) (g := gNm k) (ct := DL.ret true) (ce := ce) (ρ1 := setR ρ k (.v d)) (ρ2 := setR ρ k (.v d)) rfl rfl (h d List.mem_cons_self) (by rw [sizeLine_eq]; omega)]
    rw [show wipeR (setR ρ k (.v d)) [k] = ρ by show (ρ.set k _).set k none = ρ; rw [List.set_set]; exact hk]
    rw [lc_map hk ds _ (fun x hx => h x (List.mem_cons_of_mem _ hx)) (by simp; omega), List.append_assoc]
    rfl
theorem cLc_map {k : Nat} {ci : C (List Dt)} {ce : C Dt} {ρ0 ρ : Rho} {f : Dt → Dt} {ds : List Dt} (hi : ci ρ0 = .ok ds ρ) (hk : ρ.set k none = ρ) (hb : backV ρ ρ [k] = ρ) (h : ∀ d ∈ ds, ce (setR ρ k (.v d)) = .ok (f d) (setR ρ k (.v d))) (hz : ds.length ≤ 1000) : cLc [k] ci (gNm k) (DL.ret true) ce ρ0 = .ok (.o (.lst (ds.map f))) ρ := by
  unfold cLc
  rw [bind_ok hi]
  rw [show wipeR ρ [k] = ρ from hk, lc_map hk ds [] h (by simp; omega)]
  simp only [List.nil_append, hb]
def rk : Nat → List Nat → List (Dt × Dt)
  | _, [] => []
  | i, c :: r => (sg c, .int (i : Nat)) :: rk (i + 1) r
theorem dget_rk {c : Nat} : ∀ {L : List Nat} {i : Nat}, c ∈ L → dget (rk i L) (sg c) = some (.int ((i + L.idxOf c : Nat) : Int))
  | [], _, h => by cases h
  | d :: L, i, h => by
    unfold rk dget
    by_cases e : d = c
    · subst e
      simp [sameK]
    · have h' : c ∈ L := (List.mem_cons.mp h).elim (fun z => absurd z.symm e) fun z => z
      have hs : sameK (sg d) (sg c) = false := by simp [sameK, e]
      rw [hs, if_neg Bool.false_ne_true, dget_rk h']
      have : (d :: L).idxOf c = L.idxOf c + 1 := by
        rw [List.idxOf_cons]
        have : (d == c) = false := by simpa using e
        rw [this]
        rfl
      rw [this]
      congr 3
      omega
theorem dget_no {c : Nat} : ∀ {L : List Nat} {i : Nat}, c ∉ L → dget (rk i L) (sg c) = none
  | [], _, _ => rfl
  | d :: L, i, h => by
    unfold rk dget
    have e : d ≠ c := fun z => h (z ▸ List.mem_cons_self)
    have hs : sameK (sg d) (sg c) = false := by simp [sameK, e]
    rw [hs, if_neg Bool.false_ne_true, dget_no fun z => h (List.mem_cons_of_mem _ z)]
theorem dIn_rk {c : Nat} {L : List Nat} : dIn (sg c) (.dic 0 (rk 0 L)) = some (.bl (decide (c ∈ L))) := by
  have k : kindOk 0 (sg c) = true := rfl
  unfold dIn isIn
  simp only [k, if_true]
  by_cases h : c ∈ L
  · rw [dget_rk h, decide_eq_true h]; rfl
  · rw [dget_no h, decide_eq_false h]; rfl
theorem dIn_str {c : Nat} {L : List Nat} : dIn (sg c) (.str L) = some (.bl (decide (c ∈ L))) := rfl
theorem bls_map (L : List Nat) : ∀ s : List Nat, blsOf (s.map fun c => Dt.bl (decide (c ∈ L))) = some (s.map fun c => decide (c ∈ L))
  | [] => rfl
  | c :: s => by simp only [List.map_cons, blsOf, bls_map L s]; rfl
theorem rk_app : ∀ {pre : List Nat} {i c : Nat}, rk i (pre ++ [c]) = rk i pre ++ [(sg c, .int ((i + pre.length : Nat) : Int))]
  | [], i, c => rfl
  | d :: pre, i, c => by
    show (sg d, Dt.int (i : Nat)) :: rk (i + 1) (pre ++ [c]) = (sg d, Dt.int (i : Nat)) :: (rk (i + 1) pre ++ _)
    rw [rk_app, List.length_cons, show i + 1 + pre.length = i + (pre.length + 1) by omega]
theorem rk_len : ∀ {l : List Nat} {i : Nat}, (rk i l).length = l.length
  | [], _ => rfl
  | c :: l, i => by unfold rk; rw [List.length_cons, List.length_cons, rk_len]
theorem rk_none {c : Nat} : ∀ {l : List Nat} {i : Nat}, c ∉ l → (rk i l).any (fun p => sameK p.1 (sg c)) = false
  | [], _, _ => rfl
  | d :: l, i, h => by
    unfold rk
    rw [List.any_cons, rk_none fun z => h (List.mem_cons_of_mem _ z)]
    have e : d ≠ c := fun z => h (z ▸ List.mem_cons_self)
    simp [sameK, e]
theorem pig : ∀ {s L : List Nat}, s.Nodup → (∀ c ∈ s, c ∈ L) → s.length ≤ L.length
  | [], _, _, _ => Nat.zero_le _
  | a :: s, L, hn, h => by
    obtain ⟨h1, h2⟩ := List.nodup_cons.mp hn
    have ha := h a List.mem_cons_self
    have := pig (s := s) (L := L.erase a) h2 fun c hc => (List.mem_erase_of_ne (fun (e : c = a) => h1 (by rw [← e]; exact hc))).mpr (h c (List.mem_cons_of_mem _ hc))
    rw [List.length_erase_of_mem ha] at this
    have := List.length_pos_of_mem ha
    rw [List.length_cons]
    omega
theorem strOk_s {s : List Nat} (h : ∀ c ∈ s, c < 1000) : PyData.strOk (mkS s) = true := by
  have := okPy_str h
  unfold okPy at this
  simp only [toPy, SeqAt.shaped, PyData.canLay0, Bool.and_eq_true] at this
  exact this.1
theorem dIx_rk {L : List Nat} {a : Nat} (h : a ∈ L) : dIx (.dic 0 (rk 0 L)) (sg a) = some (.int ((L.idxOf a : Nat) : Int)) := by
  show (if kindOk 0 (sg a) = true then dget (rk 0 L) (sg a) else none) = _
  exact (if_pos rfl).trans (by rw [dget_rk h, Nat.zero_add])
end DG
end
section
set_option Elab.async false
set_option linter.all false
set_option maxRecDepth 100000
set_option maxHeartbeats 0
namespace Lw
open PySem PySem.Spec PyProof.Rows L2 DL DLO
def top (i : Nat) : Stmt := PySem.Challenge.pw_endrows_k02_orders_made.main.body.getD i (.Pass ⟨0, 0, 0, 0⟩)
def mth (i j : Nat) : Stmt := match top i with
  | .ClassDef _ _ _ body .. => body.getD j (.Pass ⟨0, 0, 0, 0⟩)
  | s => s
abbrev cs_letters : List Str := ["Order"]
abbrev cs_ranks : List Str := ["Order"]
abbrev bs_Order : List (String × Bool) := [("NoneType", false), ("bool", false), ("int", false), ("str", false), ("tuple", false), ("list", false), ("dict", false)]
abbrev co_Order : List (Str × Bool) := [("Order", true)]
abbrev bs_bool : List (String × Bool) := [("NoneType", false), ("bool", true), ("int", false), ("str", false), ("tuple", false), ("list", false), ("dict", false)]
abbrev co_bool : List (Str × Bool) := []
abbrev bs_int : List (String × Bool) := [("NoneType", false), ("bool", true), ("int", true), ("str", false), ("tuple", false), ("list", false), ("dict", false)]
abbrev co_int : List (Str × Bool) := []
abbrev bs_str : List (String × Bool) := [("NoneType", false), ("bool", false), ("int", false), ("str", true), ("tuple", false), ("list", false), ("dict", false)]
abbrev co_str : List (Str × Bool) := []
abbrev s__law_pool : Stmt := top 13
abbrev N__law_pool : List Str := ["_law_cell_here", "_law_folded"]
def c__law_pool : S := (seqS (setS 1 (c2 dMul (cD (ret (.int 2))) (cSlot 0)))
  (seqS (ifS (isBl (c2 dLt (cSlot 0) (cD (ret (.int 0)))))
  (setS 1 (c2 dSub (cD (c2 dSub (cD (ret (.int 0))) (cD (c2 dMul (cD (ret (.int 2))) (cSlot 0))))) (cD (ret (.int 1))))) nextS)
  (seqS (ifS (isBl (c2 dGe (cSlot 1) (cD (c2 dPow (cD (ret (.int 10))) (cD (ret (.int 18)))))))
  (retF (cLst (cCons (cVar 1) (cCons (c2 dMod (cD (c1 dInt (cSlot 1))) (cD (ret (.int 1000000007)))) (cCons (ret (.int 0)) (ret [])))))) nextS)
  (retF (cLst (cCons (ret (.int 0)) (cCons (c2 dMod (cD (c1 dInt (cSlot 1))) (cD (ret (.int 1000000007)))) (cCons (ret (.int 0)) (ret [])))))))))
abbrev f__law_pool : Fn := runF 1 2 c__law_pool
abbrev s__law_cell : Stmt := top 12
abbrev N__law_cell : List Str := ["_law_script", "_law_k"]
def c__law_cell : S := (seqS (ifS (isBl (c2 dLt (cSlot 1) (cD (c1 dLen (cSlot 0)))))
  (retS (c2 dIx (cSlot 0) (cSlot 1))) nextS)
  (retS (ret (.int 0))))
abbrev f__law_cell : Fn := runF 2 2 c__law_cell
abbrev s__law_take : Stmt := top 14
abbrev N__law_take : List Str := ["_law_pool_here", "_law_many", "_law_mixed_here", "_law_draw"]
def c__law_take : S := (seqS (ifS (isBl (c2 dGt (cD (c2 dIx (cSlot 0) (cD (ret (.int 0))))) (cD (ret (.int 0)))))
  (seqS (setS 3 (c2 dMod (cD (c1 dInt (cD (c2 dIx (cSlot 0) (cD (ret (.int 0))))))) (cSlot 1)))
  (seqS (setIxS 0 (c2 dFdv (cD (c2 dIx (cSlot 0) (cD (ret (.int 0))))) (cSlot 1)) (ret (.int 0)))
  (retV 3))) nextS)
  (seqS (setIxS 0 (c2 dAdd (cD (c2 dIx (cSlot 0) (cD (ret (.int 2))))) (cD (ret (.int 1)))) (ret (.int 2)))
  (seqS (setS 2 (c2 dMod (cD (c1 dInt (cD (c2 dPow (cD (c2 dAdd (cD (c2 dAdd (cD (c2 dIx (cSlot 0) (cD (ret (.int 1))))) (cD (c2 dMul (cD (ret (.int 7919))) (cD (c2 dIx (cSlot 0) (cD (ret (.int 2))))))))) (cD (ret (.int 104729))))) (cD (ret (.int 5))))))) (cD (ret (.int 2147483647)))))
  (retS (c2 dMod (cD (c2 dMod (cD (c1 dInt (cD (c2 dMul (cD (c2 dAdd (cSlot 2) (cD (c2 dIx (cSlot 0) (cD (ret (.int 2))))))) (cD (ret (.int 40692))))))) (cD (ret (.int 2147483629))))) (cSlot 1))))))
abbrev f__law_take : Fn := runF 2 4 c__law_take
abbrev s__law_mixed : Stmt := top 15
abbrev N__law_mixed : List Str := ["_law_pool_here", "_law_things", "_law_left", "_law_found", "_law_k", "_law_at"]
def c__law_mixed : S := (seqS (setF 2 (cListA (cSlot 1)))
  (seqS (setF 3 (cLst (ret [])))
  (seqS (forS (cRng1 (cCons (c1 dLen (cSlot 1)) (ret []))) (gNm 4)
  (seqS (setF 5 (cCall 2 [0] f__law_take (aCons (cSlot 0) (aCons (cD (c1 dLen (cSlot 2))) (ret [])))))
  (seqS (exprS (appC 3 (c2 dIx (cSlot 2) (cSlot 5))))
  (setS 2 (c2 dAdd (cD (cSl (cSlot 2) (ret none) (cPart (cVar 5)))) (cD (cSl (cSlot 2) (cPart (c2 dAdd (cSlot 5) (cD (ret (.int 1))))) (ret none))))))))
  (retV 3))))
abbrev f__law_mixed : Fn := runF 2 6 c__law_mixed
abbrev s_are_letters : Stmt := top 9
abbrev N_are_letters : List Str := ["thing", "sign"]
def c_are_letters : S := (seqS (ifS (cOrB (cNotB (cTru (cD (c1 (dIsi bs_str co_str) (cSlot 0))))) (cOrB (isBl (c2 dEq (cSlot 0) (cD (ret (.str []))))) (cNotB (cTru (cD (c1 dAll (cD (frz (cLc [1] (cIter (cVar 0)) (gNm 1) (ret true) (c2 dIn (cSlot 1) (cD (ret (.str [97, 98, 99, 100, 101, 102, 103, 104, 105, 106, 107, 108, 109, 110, 111, 112, 113, 114, 115, 116, 117, 118, 119, 120, 121, 122])))))))))))))
  (retS (ret (.bl false))) nextS)
  (retS (c2 dEq (cD (bindR (cVar 0) fun d => lift (dLenSet d))) (cD (c1 dLen (cSlot 0))))))
abbrev f_are_letters : Fn := runF 1 2 c_are_letters
abbrev s_Order___init__ : Stmt := mth 10 0
abbrev N_Order___init__ : List Str := ["self", "letters", "at", "letter"]
def c_Order___init__ : S := (seqS (ifS (cNotB (cTru (cD (frz (cCall 1 [] f_are_letters (aCons (cD (cVar 1)) (ret [])))))))
  (raiseS "BadOrder" ["letters"] (cCons (cVar 1) (ret []))) nextS)
  (seqS (fldS cs_letters 0 "letters" (cVar 1))
  (fldS cs_ranks 0 "ranks" (frz (cDc [2, 3] (cEnumS (cVar 1)) (gTu 2 (gsN [2, 3])) (ret true) (cVar 3) (cVar 2))))))
abbrev f_Order___init__ : Fn := runF 2 4 c_Order___init__
abbrev s_Order___len__ : Stmt := mth 10 1
abbrev N_Order___len__ : List Str := ["self"]
def c_Order___len__ : S := (retS (c1 dLen (cD (cFld cs_letters "letters" (cSlot 0)))))
abbrev f_Order___len__ : Fn := runF 1 1 c_Order___len__
abbrev s_is_number : Stmt := top 3
abbrev N_is_number : List Str := ["thing"]
def c_is_number : S := (retS (cAndV (c1 (dIsi bs_int co_int) (cSlot 0)) (cAndV (cNotV (c1 (dIsi bs_bool co_bool) (cSlot 0))) (c2 dGe (cSlot 0) (cD (ret (.int 0)))))))
abbrev f_is_number : Fn := runF 1 1 c_is_number
abbrev s_Order___getitem__ : Stmt := mth 10 3
abbrev N_Order___getitem__ : List Str := ["self", "at"]
def c_Order___getitem__ : S := (seqS (ifS (cOrB (cNotB (cTru (cD (frz (cCall 1 [] f_is_number (aCons (cD (cVar 1)) (ret []))))))) (isBl (c2 dGe (cSlot 1) (cD (c1 dLen (cD (cFld cs_letters "letters" (cSlot 0))))))))
  (raiseS "NoLetter" ["letter"] (cCons (cVar 1) (ret []))) nextS)
  (retS (c2 dIx (cD (cFld cs_letters "letters" (cSlot 0))) (cSlot 1))))
abbrev f_Order___getitem__ : Fn := runF 2 2 c_Order___getitem__
abbrev s__law_numbered : Stmt := top 17
abbrev N__law_numbered : List Str := ["_law_order", "_law_at", "e"]
def c__law_numbered : S := (tryS (retF (cOwn2 "Order" f_Order___getitem__ (cD (cVar 0)) (cD (cVar 1))))
  (⟨["NoLetter"], ["RowError", "BadOrder"], (some 2), (fun x => retS ((fun x => cTup ((fun x => cCons ((fun _ => (ret (.str [110, 111, 110, 101]))) x) ((fun x => cCons ((xfC "NoLetter" "letter") x) ((fun _ => ret []) x)) x)) x)) x))⟩ :: []))
abbrev f__law_numbered : Fn := runF 2 3 c__law_numbered
abbrev s_Order___contains__ : Stmt := mth 10 2
abbrev N_Order___contains__ : List Str := ["self", "thing"]
def c_Order___contains__ : S := (retS (cAndV (c1 (dIsi bs_str co_str) (cSlot 1)) (c2 dIn (cSlot 1) (cD (cFld cs_ranks "ranks" (cSlot 0))))))
abbrev f_Order___contains__ : Fn := runF 2 2 c_Order___contains__
abbrev s__law_is_told : Stmt := top 18
abbrev N__law_is_told : List Str := ["_law_told", "_law_due"]
def c__law_is_told : S := (retS (cAndV (c2 dEqX (cSlot 0) (cSlot 1)) (c2 dEqX (cD (c1 (dIsi bs_bool co_bool) (cD (c2 dIx (cSlot 0) (cD (ret (.int 1))))))) (cD (c1 (dIsi bs_bool co_bool) (cD (c2 dIx (cSlot 1) (cD (ret (.int 1))))))))))
abbrev f__law_is_told : Fn := runF 2 2 c__law_is_told
abbrev s_Order___neg__ : Stmt := mth 10 5
abbrev N_Order___neg__ : List Str := ["self"]
def c_Order___neg__ : S := (retF (cMake "Order" 2 f_Order___init__ (cCons (c1 dRev (cD (cFld cs_letters "letters" (cSlot 0)))) (ret []))))
abbrev f_Order___neg__ : Fn := runF 1 1 c_Order___neg__
abbrev s_Order___eq__ : Stmt := mth 10 6
abbrev N_Order___eq__ : List Str := ["self", "other"]
def c_Order___eq__ : S := (retS (cAndV (c1 (dIsi bs_Order co_Order) (cSlot 1)) (c2 dEq (cD (cFld cs_letters "letters" (cSlot 0))) (cD (cFld cs_letters "letters" (cSlot 1))))))
abbrev f_Order___eq__ : Fn := runF 2 2 c_Order___eq__
abbrev s__law_spoilt : Stmt := top 19
abbrev N__law_spoilt : List Str := ["_law_pool_here", "_law_letters", "_law_at", "_law_some", "_law_sign"]
def c__law_spoilt : S := (seqS (setF 2 (cCall 2 [0] f__law_take (aCons (cSlot 0) (aCons (cD (c2 dAdd (cD (c1 dLen (cSlot 1))) (cD (ret (.int 1))))) (ret [])))))
  (seqS (setF 3 (cLc [4] (cIter (frz (cLst (cCons (c2 dIx (cSlot 1) (cD (ret (.int 0)))) (cCons (ret (.str [65])) (cCons (ret (.str [32])) (cCons (ret (.str [49])) (cCons (ret (.str [10])) (ret []))))))))) (gNm 4) (ret true) (c2 dAdd (cD (c2 dAdd (cD (cSl (cSlot 1) (ret none) (cPart (cVar 2)))) (cSlot 4))) (cD (cSl (cSlot 1) (cPart (cVar 2)) (ret none))))))
  (retS (c2 dAdd (cSlot 3) (cD (frz (cLst (cCons (ret (.str [])) (cCons (ret .non) (cCons (ret (.int 7)) (cCons (frz (cListA (cSlot 1))) (cCons (cTup (cCons (cVar 1) (ret []))) (cCons (ret (.bl true)) (cCons (frz (cDicN 0)) (ret [])))))))))))))))
abbrev f__law_spoilt : Fn := runF 2 5 c__law_spoilt
abbrev s__law_refused : Stmt := top 16
abbrev N__law_refused : List Str := ["_law_thing", "e"]
def c__law_refused : S := (seqS (tryS (exprS (frz (cMake "Order" 2 f_Order___init__ (cCons (cVar 0) (ret [])))))
  (⟨["BadOrder"], ["RowError", "NoLetter"], (some 1), (fun x => retS ((fun x => cTup ((fun x => cCons ((fun _ => (ret (.str [98, 97, 100]))) x) ((fun x => cCons ((xfC "BadOrder" "letters") x) ((fun _ => ret []) x)) x)) x)) x))⟩ :: []))
  (retS (cTup (cCons (ret (.str [109, 97, 100, 101])) (cCons (cVar 0) (ret []))))))
abbrev f__law_refused : Fn := runF 1 2 c__law_refused
abbrev s_law : Stmt := top 20
abbrev N_law : List Str := ["_law_script", "_law_k", "_law_pool_here", "_law_some", "_law_letters", "_law_order", "_law_at", "_law_back", "_law_others", "_law_thing", "_law_other"]
def c_law : S := (seqS (forS (cRng1 (cCons (ret (.int 4)) (ret []))) (gNm 1)
  (seqS (setF 2 (cCall 1 [] f__law_pool (aCons (cD (c2 dAdd (cD (frz (cCall 2 [] f__law_cell (aCons (cD (cVar 0)) (aCons (cD (cVar 1)) (ret [])))))) (cSlot 1))) (ret []))))
  (seqS (setF 3 (cCall 2 [0] f__law_mixed (aCons (cSlot 2) (aCons (cD (ret (.str [97, 98, 99, 100, 101, 102, 103, 104, 105, 106, 107, 108, 109, 110, 111, 112, 113, 114, 115, 116, 117, 118, 119, 120, 121, 122]))) (ret [])))))
  (seqS (setS 4 (mt1 dJoin (ret (.str [])) (cSl (cSlot 3) (ret none) (cPart (c2 dAdd (cD (ret (.int 1))) (cD (frz (cCall 2 [0] f__law_take (aCons (cSlot 2) (aCons (cD (ret (.int 5))) (ret [])))))))))))
  (seqS (setF 5 (cMake "Order" 2 f_Order___init__ (cCons (cVar 4) (ret []))))
  (seqS (ifS (cOrB (isBl (c2 dNe (cD (cFld cs_letters "letters" (cSlot 5))) (cSlot 4))) (isBl (c2 dNe (cD (cLenO "Order" f_Order___len__ (cD (cVar 5)))) (cD (c1 dLen (cSlot 4))))))
  (retS (ret (.bl false))) nextS)
  (seqS (forS (cRng1 (cCons (c1 dLen (cSlot 4)) (ret []))) (gNm 6)
  (ifS (cOrB (isBl (c2 dNe (cD (frz (cCall 2 [] f__law_numbered (aCons (cD (cVar 5)) (aCons (cD (cVar 6)) (ret [])))))) (cD (c2 dIx (cSlot 4) (cSlot 6))))) (isBl (cInO true "Order" f_Order___contains__ (cD (c2 dIx (cSlot 4) (cSlot 6))) (cD (cVar 5)))))
  (retS (ret (.bl false))) nextS))
  (seqS (forS (cIter (frz (cLst (cCons (c1 dLen (cSlot 4)) (cCons (cNeg (ret (.int 1))) (cCons (cNeg (c1 dLen (cSlot 4))) (cCons (c2 dPow (cD (ret (.int 10))) (cD (ret (.int 30)))) (cCons (ret .non) (cCons (ret (.str [48])) (cCons (ret (.bl true)) (cCons (cTup (cCons (ret (.int 0)) (ret []))) (ret [])))))))))))) (gNm 6)
  (ifS (cNotB (cTru (cD (frz (cCall 2 [] f__law_is_told (aCons (cD (frz (cCall 2 [] f__law_numbered (aCons (cD (cVar 5)) (aCons (cD (cVar 6)) (ret [])))))) (aCons (cD (cTup (cCons (ret (.str [110, 111, 110, 101])) (cCons (cVar 6) (ret []))))) (ret []))))))))
  (retS (ret (.bl false))) nextS))
  (seqS (ifS (cTru (cD (c1 dAny (cD (frz (cLc [9] (cIter (frz (cLst (cCons (c2 dIx (cSlot 3) (cD (ret (.int 5)))) (cCons (ret (.str [])) (cCons (c2 dMul (cD (c2 dIx (cSlot 4) (cD (ret (.int 0))))) (cD (ret (.int 2)))) (cCons (ret .non) (cCons (ret (.int 0)) (cCons (cTup (cCons (c2 dIx (cSlot 4) (cD (ret (.int 0)))) (ret []))) (cCons (frz (cLst (cCons (c2 dIx (cSlot 4) (cD (ret (.int 0)))) (ret [])))) (cCons (frz (cDicN 0)) (ret [])))))))))))) (gNm 9) (ret true) (cInO false "Order" f_Order___contains__ (cD (cVar 9)) (cD (cVar 5)))))))))
  (retS (ret (.bl false))) nextS)
  (seqS (ifS (cAndB (isBl (c2 dGt (cD (c1 dLen (cSlot 4))) (cD (ret (.int 1))))) (isBl (cInO false "Order" f_Order___contains__ (cD (cVar 4)) (cD (cVar 5)))))
  (retS (ret (.bl false))) nextS)
  (seqS (setF 7 (cOwn1 "Order" f_Order___neg__ (cD (cVar 5))))
  (seqS (ifS (cOrB (isBl (c2 dNe (cD (cFld cs_letters "letters" (cSlot 7))) (cD (c1 dRev (cSlot 4))))) (cOrB (isBl (c2 dNe (cD (cFld cs_letters "letters" (cSlot 5))) (cSlot 4))) (cNotB (isBl (bindR (cOwnE "Order" f_Order___eq__ (cD (frz (cOwn1 "Order" f_Order___neg__ (cD (cVar 7))))) (cD (cVar 5))) DLO.eqT)))))
  (retS (ret (.bl false))) nextS)
  (seqS (setS 8 (c2 dAdd (cD (frz (cLst (cCons (frz (cMake "Order" 2 f_Order___init__ (cCons (c2 dAdd (cSlot 4) (cD (c2 dIx (cSlot 3) (cD (ret (.int 5)))))) (ret [])))) (cCons (cVar 4) (cCons (frz (cListA (cSlot 4))) (cCons (ret .non) (ret [])))))))) (cD (c2 dMul (cD (frz (cLst (cCons (cVar 7) (ret []))))) (cD (c1 dInt (cD (c2 dGt (cD (c1 dLen (cSlot 4))) (cD (ret (.int 1)))))))))))
  (seqS (ifS (cOrB (cTru (cD (c1 dAny (cD (frz (cLc [10] (cIter (cVar 8)) (gNm 10) (ret true) (cOrV (bindR (cOwnE "Order" f_Order___eq__ (cD (cVar 5)) (cD (cVar 10))) DLO.eqT) (cNotV (bindR (cOwnE "Order" f_Order___eq__ (cD (cVar 5)) (cD (cVar 10))) DLO.neT))))))))) (isBl (bindR (cOwnE "Order" f_Order___eq__ (cD (cVar 5)) (cD (frz (cMake "Order" 2 f_Order___init__ (cCons (cVar 4) (ret [])))))) DLO.neT)))
  (retS (ret (.bl false))) nextS)
  (forS (cIter (frz (cCall 2 [0] f__law_spoilt (aCons (cSlot 2) (aCons (cD (cVar 4)) (ret [])))))) (gNm 9)
  (ifS (cNotB (cTru (cD (frz (cCall 2 [] f__law_is_told (aCons (cD (frz (cCall 1 [] f__law_refused (aCons (cD (cVar 9)) (ret []))))) (aCons (cD (cTup (cCons (ret (.str [98, 97, 100])) (cCons (cVar 9) (ret []))))) (ret []))))))))
  (retS (ret (.bl false))) nextS))))))))))))))))
  (retS (ret (.bl true))))
abbrev f_law : Fn := runF 1 11 c_law
structure Gx (P : Program) (K : PySem.W.Frag) (mg : Str → Option Value) : Prop where
  n_all : mg "all" = none
  n_any : mg "any" = none
  n_bool : mg "bool" = none
  n_enumerate : mg "enumerate" = none
  n_int : mg "int" = none
  n_isinstance : mg "isinstance" = none
  n_len : mg "len" = none
  n_list : mg "list" = none
  n_range : mg "range" = none
  n_set : mg "set" = none
  n_str : mg "str" = none
  n_super : mg "super" = none
  g_SIGNS : ∃ u, mg "SIGNS" = some (.str "abcdefghijklmnopqrstuvwxyz" u)
  f_letters : FldOk K mg cs_letters "letters"
  f_ranks : FldOk K mg cs_ranks "ranks"
  is_Order : ∃ C, mg "Order" = some (.ref C) ∧ IsT K mg (.ref C) bs_Order co_Order
  is_bool : IsT K mg (.type "bool") bs_bool co_bool
  is_int : IsT K mg (.type "int") bs_int co_int
  is_str : IsT K mg (.type "str") bs_str co_str
  x_BadOrder : Xk P K mg "BadOrder" ["letters"]
  x_NoLetter : Xk P K mg "NoLetter" ["letter"]
  xf_BadOrder_letters : Xf K mg "BadOrder" "letters"
  xf_NoLetter_letter : Xf K mg "NoLetter" "letter"
  h_BadOrder : ∃ C, mg "BadOrder" = some (.ref C) ∧ Ys K mg (.ref C) true ["BadOrder"] ∧ Ys K mg (.ref C) false ["RowError", "NoLetter"]
  h_NoLetter : ∃ C, mg "NoLetter" = some (.ref C) ∧ Ys K mg (.ref C) true ["NoLetter"] ∧ Ys K mg (.ref C) false ["RowError", "BadOrder"]
  o_Order : ∀ C, mg "Order" = some (.ref C) → NoSub K C ∧ NoNe K C
  z : True
section
variable {P : Program} {w : World} {K : PySem.W.Frag} {mg : Str → Option Value} {base : Heap}
theorem j__law_pool (G : Gx P K mg)  : JDef P w K mg base N__law_pool "_law_pool" (defScope s__law_pool) 0 [] (defBody s__law_pool) c__law_pool := by
  intro f cd A outer s H E hr
  have nd : N__law_pool.Nodup := by decide +kernel
  have u1 := room_u1 hr
  have u64 := hr.units
  have u65 := room_u65 hr
  exact (js_cons (js_set (i := 1) nd rfl (by first | exact .inl rfl | exact .inr rfl) (je_mul (jq_e je_int) (jq_var (i := 0))) (by decide))
  (js_cons (js_if (jt_lt  (jq_var (i := 0)) (jq_e je_int))
  (js_one (js_set (i := 1) nd rfl (by first | exact .inl rfl | exact .inr rfl) (je_sub (jq_e (je_sub (jq_e je_int) (jq_e (je_mul (jq_e je_int) (jq_var (i := 0)))))) (jq_e je_int)) (by decide))) js_nil)
  (js_cons (js_if (jt_ge  (jq_var (i := 1)) (jq_e (je_pow (jq_e je_int) (jq_e je_int))))
  (js_one (js_retF (jf_lst (jl_cons (je_nm (i := 1)) (jl_cons (je_mod (jq_e (je_int1 G.n_int (jq_var (i := 1)))) (jq_e je_int)) (jl_cons je_int jl_nil)))))) js_nil)
  (js_one (js_retF (jf_lst (jl_cons je_int (jl_cons (je_mod (jq_e (je_int1 G.n_int (jq_var (i := 1)))) (jq_e je_int)) (jl_cons je_int jl_nil)))))))))
theorem j__law_cell (G : Gx P K mg)  : JDef P w K mg base N__law_cell "_law_cell" (defScope s__law_cell) 0 [] (defBody s__law_cell) c__law_cell := by
  intro f cd A outer s H E hr
  have nd : N__law_cell.Nodup := by decide +kernel
  have u1 := room_u1 hr
  have u64 := hr.units
  have u65 := room_u65 hr
  exact (js_cons (js_if (jt_lt  (jq_var (i := 1)) (jq_e (je_len G.n_len (jq_var (i := 0)))))
  (js_one (js_ret (je_ix u1 (jq_var (i := 0)) (jq_var (i := 1))))) js_nil)
  (js_one (js_ret je_int)))
theorem j__law_take (G : Gx P K mg)  : JDef P w K mg base N__law_take "_law_take" (defScope s__law_take) 0 [0] (defBody s__law_take) c__law_take := by
  intro f cd A outer s H E hr
  have nd : N__law_take.Nodup := by decide +kernel
  have u1 := room_u1 hr
  have u64 := hr.units
  have u65 := room_u65 hr
  exact (js_cons (js_if (jt_gt  (jq_e (je_ix u1 (jq_var (i := 0)) (jq_e je_int))) (jq_e je_int))
  (js_cons (js_set (i := 3) nd rfl (by first | exact .inl rfl | exact .inr rfl) (je_mod (jq_e (je_int1 G.n_int (jq_e (je_ix u1 (jq_var (i := 0)) (jq_e je_int))))) (jq_var (i := 1))) (by decide))
  (js_cons (js_setIx (i := 0) (je_fdv (jq_e (je_ix u1 (jq_var (i := 0)) (jq_e je_int))) (jq_var (i := 1))) je_int)
  (js_one (js_retV (i := 3) (by decide))))) js_nil)
  (js_cons (js_setIx (i := 0) (je_add (jq_e (je_ix u1 (jq_var (i := 0)) (jq_e je_int))) (jq_e je_int)) je_int)
  (js_cons (js_set (i := 2) nd rfl (by first | exact .inl rfl | exact .inr rfl) (je_mod (jq_e (je_int1 G.n_int (jq_e (je_pow (jq_e (je_add (jq_e (je_add (jq_e (je_ix u1 (jq_var (i := 0)) (jq_e je_int))) (jq_e (je_mul (jq_e je_int) (jq_e (je_ix u1 (jq_var (i := 0)) (jq_e je_int))))))) (jq_e je_int))) (jq_e je_int))))) (jq_e je_int)) (by decide))
  (js_one (js_ret (je_mod (jq_e (je_mod (jq_e (je_int1 G.n_int (jq_e (je_mul (jq_e (je_add (jq_var (i := 2)) (jq_e (je_ix u1 (jq_var (i := 0)) (jq_e je_int))))) (jq_e je_int))))) (jq_e je_int))) (jq_var (i := 1))))))))
theorem j__law_mixed (G : Gx P K mg) (D__law_take : Df P w K mg base "_law_take" 1 2 [0] f__law_take) : JDef P w K mg base N__law_mixed "_law_mixed" (defScope s__law_mixed) 1 [0] (defBody s__law_mixed) c__law_mixed := by
  intro f cd A outer s H E hr
  have nd : N__law_mixed.Nodup := by decide +kernel
  have u1 := room_u1 hr
  have u64 := hr.units
  have u65 := room_u65 hr
  exact (js_cons (js_setF (i := 2) nd rfl (by first | exact .inl rfl | exact .inr rfl) (jf_listA rfl G.n_list (jq_var (i := 1)) boot_list') (by decide))
  (js_cons (js_setF (i := 3) nd rfl (by first | exact .inl rfl | exact .inr rfl) (jf_lst jl_nil) (by decide))
  (js_cons (js_for cx_po rfl (ji_range1 G.n_range (jl_cons (je_len G.n_len (jq_var (i := 1))) jl_nil)) (jg_name nd rfl (by first | exact .inl rfl | exact .inr rfl) (by decide))
  (js_cons (js_setF (i := 5) nd rfl (by first | exact .inl rfl | exact .inr rfl) (jf_call D__law_take (hr.mono (by decide)) cx_tk (ja_cons (jq_var (i := 0)) (ja_cons (jq_e (je_len G.n_len (jq_var (i := 2)))) ja_nil))) (by decide))
  (js_cons (js_expr (je_append (i := 3) (je_ix u1 (jq_var (i := 2)) (jq_var (i := 5)))))
  (js_one (js_set (i := 2) nd rfl (by first | exact .inl rfl | exact .inr rfl) (je_add (jq_e (je_sl (jq_var (i := 2)) jo_none (jo_some (je_nm (i := 5))))) (jq_e (je_sl (jq_var (i := 2)) (jo_some (je_add (jq_var (i := 5)) (jq_e je_int))) jo_none))) (by decide))))))
  (js_one (js_retV (i := 3) (by decide))))))
theorem j_are_letters (G : Gx P K mg)  : JDef P w K mg base N_are_letters "are_letters" (defScope s_are_letters) 0 [] (defBody s_are_letters) c_are_letters := by
  intro f cd A outer s H E hr
  have nd : N_are_letters.Nodup := by decide +kernel
  have u1 := room_u1 hr
  have u64 := hr.units
  have u65 := room_u65 hr
  obtain ⟨u_SIGNS, hSIGNS⟩ := G.g_SIGNS
  exact (js_cons (js_if (jt_w (jw_or (jt_not (jt_val (jq_e (je_isiT G.is_str boot_str' G.n_str G.n_isinstance (jq_var (i := 0)))))) (jw_or (jt_eq u64 (jq_var (i := 0)) (jq_e je_str)) (jw_or1 (jt_not (jt_val (jq_e (je_all rfl G.n_all (jq_e (je_f (jf_lc rfl nd (ji_seq (je_nm (i := 0))) (own := [("sign", 1)]) (by rfl) (by decide) (tg_name (by decide) (by decide)) (fun _ _ _ _ _ => pg_name nd rfl (by first | exact .inl rfl | exact .inr rfl)) (fun _ _ _ _ _ => jts_nil) (fun _ _ _ _ _ => (je_in u65 (jq_var (i := 1)) (jq_e (je_gstr hSIGNS (by rfl))))))))))))))))
  (js_one (js_ret je_bl)) js_nil)
  (js_one (js_ret (je_eq u64 (jq_e (je_lenSet rfl G.n_len G.n_set (je_nm (i := 0)))) (jq_e (je_len G.n_len (jq_var (i := 0))))))))
theorem j_Order___init__ (G : Gx P K mg) (D_are_letters : Df P w K mg base "are_letters" 1 1 [] f_are_letters) : JDef P w K mg base N_Order___init__ "Order.__init__" (defScope s_Order___init__) 1 [0] (defBody s_Order___init__) c_Order___init__ := by
  intro f cd A outer s H E hr
  have nd : N_Order___init__.Nodup := by decide +kernel
  have u1 := room_u1 hr
  have u64 := hr.units
  have u65 := room_u65 hr
  exact (js_cons (js_if (jt_not (jt_val (jq_e (je_f (jf_call D_are_letters (hr.mono (by decide)) cx_tk (ja_cons (jq_e (je_nm (i := 1))) ja_nil))))))
  (js_one (js_raise (k := 0) G.x_BadOrder rfl cx_tk (hr.mono (by decide)) (jl_cons (je_nm (i := 1)) jl_nil))) js_nil)
  (js_cons (js_fld (i := 0) G.f_letters (je_nm (i := 1)))
  (js_one (js_fld (i := 0) G.f_ranks (je_f (jf_dc rfl nd (ji_enumS G.n_enumerate (je_nm (i := 1))) (own := [("at", 2), ("letter", 3)]) (by rfl) (by decide) (tg_tup (is := [2, 3]) (by decide)) (fun _ _ _ _ _ => pg_tup rfl (pgs_cons (pg_name nd rfl (by first | exact .inl rfl | exact .inr rfl)) (pgs_cons (pg_name nd rfl (by first | exact .inl rfl | exact .inr rfl)) pgs_nil))) (fun _ _ _ _ _ => jts_nil) (fun _ _ _ _ _ => (je_nm (i := 3))) (fun _ _ _ _ _ => (je_nm (i := 2)))))))))
theorem j_Order___len__ (G : Gx P K mg)  : JDef P w K mg base N_Order___len__ "Order.__len__" (defScope s_Order___len__) 0 [] (defBody s_Order___len__) c_Order___len__ := by
  intro f cd A outer s H E hr
  have nd : N_Order___len__.Nodup := by decide +kernel
  have u1 := room_u1 hr
  have u64 := hr.units
  have u65 := room_u65 hr
  exact (js_one (js_ret (je_len G.n_len (jq_e (je_fld G.f_letters (jq_var (i := 0)))))))
theorem j_is_number (G : Gx P K mg)  : JDef P w K mg base N_is_number "is_number" (defScope s_is_number) 0 [] (defBody s_is_number) c_is_number := by
  intro f cd A outer s H E hr
  have nd : N_is_number.Nodup := by decide +kernel
  have u1 := room_u1 hr
  have u64 := hr.units
  have u65 := room_u65 hr
  exact (js_one (js_ret (je_and (je_isiT G.is_int boot_int' G.n_int G.n_isinstance (jq_var (i := 0))) (je_and (je_not (je_isiT G.is_bool boot_bool' G.n_bool G.n_isinstance (jq_var (i := 0)))) (je_one (je_ge  (jq_var (i := 0)) (jq_e je_int)))))))
theorem j_Order___getitem__ (G : Gx P K mg) (D_is_number : Df P w K mg base "is_number" 1 1 [] f_is_number) : JDef P w K mg base N_Order___getitem__ "Order.__getitem__" (defScope s_Order___getitem__) 1 [] (defBody s_Order___getitem__) c_Order___getitem__ := by
  intro f cd A outer s H E hr
  have nd : N_Order___getitem__.Nodup := by decide +kernel
  have u1 := room_u1 hr
  have u64 := hr.units
  have u65 := room_u65 hr
  exact (js_cons (js_if (jt_w (jw_or (jt_not (jt_val (jq_e (je_f (jf_call D_is_number (hr.mono (by decide)) cx_tk (ja_cons (jq_e (je_nm (i := 1))) ja_nil)))))) (jw_or1 (jt_ge  (jq_var (i := 1)) (jq_e (je_len G.n_len (jq_e (je_fld G.f_letters (jq_var (i := 0))))))))))
  (js_one (js_raise (k := 0) G.x_NoLetter rfl cx_tk (hr.mono (by decide)) (jl_cons (je_nm (i := 1)) jl_nil))) js_nil)
  (js_one (js_ret (je_ix u1 (jq_e (je_fld G.f_letters (jq_var (i := 0)))) (jq_var (i := 1))))))
theorem j__law_numbered (G : Gx P K mg) (D_Order___getitem__ : Do P w K mg base "Order" "__getitem__" 2 2 f_Order___getitem__) : JDef P w K mg base N__law_numbered "_law_numbered" (defScope s__law_numbered) 3 [] (defBody s__law_numbered) c__law_numbered := by
  intro f cd A outer s H E hr
  have nd : N__law_numbered.Nodup := by decide +kernel
  have u1 := room_u1 hr
  have u64 := hr.units
  have u65 := room_u65 hr
  obtain ⟨C_NoLetter, m_NoLetter, y_NoLetter, z_NoLetter⟩ := G.h_NoLetter
  exact (js_one (js_try nd rfl rfl cx_tk (fun _ _ _ tk2 po2 =>
  (js_one (js_retF (jf_ixO D_Order___getitem__ (hr.mono (by decide)) tk2 (jq_e (je_nm (i := 0))) (jq_e (je_nm (i := 1))))))) (.named ⟨rfl, by decide, .inl m_NoLetter⟩ rfl rfl (by decide) y_NoLetter z_NoLetter (jx_ret (jx_tup (jxl_cons (jx_of fun _ _ => je_str) (jxl_cons (jx_fld G.xf_NoLetter_letter) jxl_nil)))) .nil)))
theorem j_Order___contains__ (G : Gx P K mg)  : JDef P w K mg base N_Order___contains__ "Order.__contains__" (defScope s_Order___contains__) 0 [] (defBody s_Order___contains__) c_Order___contains__ := by
  intro f cd A outer s H E hr
  have nd : N_Order___contains__.Nodup := by decide +kernel
  have u1 := room_u1 hr
  have u64 := hr.units
  have u65 := room_u65 hr
  exact (js_one (js_ret (je_and (je_isiT G.is_str boot_str' G.n_str G.n_isinstance (jq_var (i := 1))) (je_one (je_in u65 (jq_var (i := 1)) (jq_e (je_fld G.f_ranks (jq_var (i := 0)))))))))
theorem j__law_is_told (G : Gx P K mg)  : JDef P w K mg base N__law_is_told "_law_is_told" (defScope s__law_is_told) 0 [] (defBody s__law_is_told) c__law_is_told := by
  intro f cd A outer s H E hr
  have nd : N__law_is_told.Nodup := by decide +kernel
  have u1 := room_u1 hr
  have u64 := hr.units
  have u65 := room_u65 hr
  exact (js_one (js_ret (je_and (je_eqX u65 (jq_var (i := 0)) (jq_var (i := 1))) (je_one (je_eqX u65 (jq_e (je_isiT G.is_bool boot_bool' G.n_bool G.n_isinstance (jq_e (je_ix u1 (jq_var (i := 0)) (jq_e je_int))))) (jq_e (je_isiT G.is_bool boot_bool' G.n_bool G.n_isinstance (jq_e (je_ix u1 (jq_var (i := 1)) (jq_e je_int))))))))))
theorem j_Order___neg__ (G : Gx P K mg) (D_Order___init__ : Dk P w K mg base "Order" 2 2 f_Order___init__) : JDef P w K mg base N_Order___neg__ "Order.__neg__" (defScope s_Order___neg__) 3 [] (defBody s_Order___neg__) c_Order___neg__ := by
  intro f cd A outer s H E hr
  have nd : N_Order___neg__.Nodup := by decide +kernel
  have u1 := room_u1 hr
  have u64 := hr.units
  have u65 := room_u65 hr
  exact (js_one (js_retF (jf_make D_Order___init__ (hr.mono (by decide)) cx_tk (jl_cons (je_rev (jq_e (je_fld G.f_letters (jq_var (i := 0))))) jl_nil))))
theorem j_Order___eq__ (G : Gx P K mg)  : JDef P w K mg base N_Order___eq__ "Order.__eq__" (defScope s_Order___eq__) 0 [] (defBody s_Order___eq__) c_Order___eq__ := by
  intro f cd A outer s H E hr
  have nd : N_Order___eq__.Nodup := by decide +kernel
  have u1 := room_u1 hr
  have u64 := hr.units
  have u65 := room_u65 hr
  obtain ⟨C_Order, hC_Order, is_Order⟩ := G.is_Order
  exact (js_one (js_ret (je_and (je_isiC is_Order hC_Order G.n_isinstance (jq_var (i := 1))) (je_one (je_eq u64 (jq_e (je_fld G.f_letters (jq_var (i := 0)))) (jq_e (je_fld G.f_letters (jq_var (i := 1)))))))))
theorem j__law_spoilt (G : Gx P K mg) (D__law_take : Df P w K mg base "_law_take" 1 2 [0] f__law_take) : JDef P w K mg base N__law_spoilt "_law_spoilt" (defScope s__law_spoilt) 1 [0] (defBody s__law_spoilt) c__law_spoilt := by
  intro f cd A outer s H E hr
  have nd : N__law_spoilt.Nodup := by decide +kernel
  have u1 := room_u1 hr
  have u64 := hr.units
  have u65 := room_u65 hr
  exact (js_cons (js_setF (i := 2) nd rfl (by first | exact .inl rfl | exact .inr rfl) (jf_call D__law_take (hr.mono (by decide)) cx_tk (ja_cons (jq_var (i := 0)) (ja_cons (jq_e (je_add (jq_e (je_len G.n_len (jq_var (i := 1)))) (jq_e je_int))) ja_nil))) (by decide))
  (js_cons (js_setLc (i := 3) rfl nd rfl (by rfl) (by decide) (by first | rfl | exact sw_true _) (ji_seq (je_f (jf_lst (jl_cons (je_ix u1 (jq_var (i := 1)) (jq_e je_int)) (jl_cons je_str (jl_cons je_str (jl_cons je_str (jl_cons je_str jl_nil)))))))) (own := [("_law_sign", 4)]) (by rfl) (by decide) (tg_name (by decide) (by decide)) (fun _ _ _ _ _ => pg_name nd rfl (by first | exact .inl rfl | exact .inr rfl)) (fun _ _ _ _ _ => jts_nil) (fun _ _ _ _ _ => (je_add (jq_e (je_add (jq_e (je_sl (jq_var (i := 1)) jo_none (jo_some (je_nm (i := 2))))) (jq_var (i := 4)))) (jq_e (je_sl (jq_var (i := 1)) (jo_some (je_nm (i := 2))) jo_none)))))
  (js_one (js_ret (je_add (jq_var (i := 3)) (jq_e (je_f (jf_lst (jl_cons je_str (jl_cons je_non (jl_cons je_int (jl_cons (je_f (jf_listA rfl G.n_list (jq_var (i := 1)) boot_list')) (jl_cons (je_tup (jl_cons (je_nm (i := 1)) jl_nil)) (jl_cons je_bl (jl_cons (je_f jf_dnew) jl_nil)))))))))))))))
theorem j__law_refused (G : Gx P K mg) (D_Order___init__ : Dk P w K mg base "Order" 2 2 f_Order___init__) : JDef P w K mg base N__law_refused "_law_refused" (defScope s__law_refused) 3 [] (defBody s__law_refused) c__law_refused := by
  intro f cd A outer s H E hr
  have nd : N__law_refused.Nodup := by decide +kernel
  have u1 := room_u1 hr
  have u64 := hr.units
  have u65 := room_u65 hr
  obtain ⟨C_BadOrder, m_BadOrder, y_BadOrder, z_BadOrder⟩ := G.h_BadOrder
  exact (js_cons (js_try nd rfl rfl cx_tk (fun _ _ _ tk2 po2 =>
  (js_one (js_expr (je_f (jf_make D_Order___init__ (hr.mono (by decide)) tk2 (jl_cons (je_nm (i := 0)) jl_nil)))))) (.named ⟨rfl, by decide, .inl m_BadOrder⟩ rfl rfl (by decide) y_BadOrder z_BadOrder (jx_ret (jx_tup (jxl_cons (jx_of fun _ _ => je_str) (jxl_cons (jx_fld G.xf_BadOrder_letters) jxl_nil)))) .nil))
  (js_one (js_ret (je_tup (jl_cons je_str (jl_cons (je_nm (i := 0)) jl_nil))))))
theorem j_law (G : Gx P K mg) (D__law_pool : Df P w K mg base "_law_pool" 1 1 [] f__law_pool) (D__law_cell : Df P w K mg base "_law_cell" 1 2 [] f__law_cell) (D__law_mixed : Df P w K mg base "_law_mixed" 2 2 [0] f__law_mixed) (D__law_take : Df P w K mg base "_law_take" 1 2 [0] f__law_take) (D_Order___init__ : Dk P w K mg base "Order" 2 2 f_Order___init__) (D_Order___len__ : Do P w K mg base "Order" "__len__" 1 1 f_Order___len__) (D__law_numbered : Df P w K mg base "_law_numbered" 4 2 [] f__law_numbered) (D_Order___contains__ : Do P w K mg base "Order" "__contains__" 1 2 f_Order___contains__) (D__law_is_told : Df P w K mg base "_law_is_told" 1 2 [] f__law_is_told) (D_Order___neg__ : Do P w K mg base "Order" "__neg__" 4 1 f_Order___neg__) (D_Order___eq__ : Do P w K mg base "Order" "__eq__" 1 2 f_Order___eq__) (D__law_spoilt : Df P w K mg base "_law_spoilt" 2 2 [0] f__law_spoilt) (D__law_refused : Df P w K mg base "_law_refused" 4 1 [] f__law_refused) : JDef P w K mg base N_law "law" (defScope s_law) 4 [] (defBody s_law) c_law := by
  intro f cd A outer s H E hr
  have nd : N_law.Nodup := by decide +kernel
  have u1 := room_u1 hr
  have u64 := hr.units
  have u65 := room_u65 hr
  exact (js_cons (js_for cx_po rfl (ji_range1 G.n_range (jl_cons je_int jl_nil)) (jg_name nd rfl (by first | exact .inl rfl | exact .inr rfl) (by decide))
  (js_cons (js_setF (i := 2) nd rfl (by first | exact .inl rfl | exact .inr rfl) (jf_call D__law_pool (hr.mono (by decide)) cx_tk (ja_cons (jq_e (je_add (jq_e (je_f (jf_call D__law_cell (hr.mono (by decide)) cx_tk (ja_cons (jq_e (je_nm (i := 0))) (ja_cons (jq_e (je_nm (i := 1))) ja_nil))))) (jq_var (i := 1)))) ja_nil)) (by decide))
  (js_cons (js_setF (i := 3) nd rfl (by first | exact .inl rfl | exact .inr rfl) (jf_call D__law_mixed (hr.mono (by decide)) cx_tk (ja_cons (jq_var (i := 2)) (ja_cons (jq_e je_str) ja_nil))) (by decide))
  (js_cons (js_set (i := 4) nd rfl (by first | exact .inl rfl | exact .inr rfl) (je_join je_str (je_sl (jq_var (i := 3)) jo_none (jo_some (je_add (jq_e je_int) (jq_e (je_f (jf_call D__law_take (hr.mono (by decide)) cx_tk (ja_cons (jq_var (i := 2)) (ja_cons (jq_e je_int) ja_nil))))))))) (by decide))
  (js_cons (js_setF (i := 5) nd rfl (by first | exact .inl rfl | exact .inr rfl) (jf_make D_Order___init__ (hr.mono (by decide)) cx_tk (jl_cons (je_nm (i := 4)) jl_nil)) (by decide))
  (js_cons (js_if (jt_w (jw_or (jt_ne u64 (jq_e (je_fld G.f_letters (jq_var (i := 5)))) (jq_var (i := 4))) (jw_or1 (jt_ne u64 (jq_e (je_lenO D_Order___len__ (hr.mono (by decide)) cx_tk G.n_len (jq_e (je_nm (i := 5))))) (jq_e (je_len G.n_len (jq_var (i := 4))))))))
  (js_one (js_ret je_bl)) js_nil)
  (js_cons (js_for cx_po rfl (ji_range1 G.n_range (jl_cons (je_len G.n_len (jq_var (i := 4))) jl_nil)) (jg_name nd rfl (by first | exact .inl rfl | exact .inr rfl) (by decide))
  (js_one (js_if (jt_w (jw_or (jt_ne u64 (jq_e (je_f (jf_call D__law_numbered (hr.mono (by decide)) cx_tk (ja_cons (jq_e (je_nm (i := 5))) (ja_cons (jq_e (je_nm (i := 6))) ja_nil))))) (jq_e (je_ix u1 (jq_var (i := 4)) (jq_var (i := 6))))) (jw_or1 (jt_notInO D_Order___contains__ (hr.mono (by decide)) cx_tk (jq_e (je_ix u1 (jq_var (i := 4)) (jq_var (i := 6)))) (jq_e (je_nm (i := 5)))))))
  (js_one (js_ret je_bl)) js_nil)))
  (js_cons (js_for cx_po rfl (ji_seq (je_f (jf_lst (jl_cons (je_len G.n_len (jq_var (i := 4))) (jl_cons (je_neg je_int) (jl_cons (je_neg (je_len G.n_len (jq_var (i := 4)))) (jl_cons (je_pow (jq_e je_int) (jq_e je_int)) (jl_cons je_non (jl_cons je_str (jl_cons je_bl (jl_cons (je_tup (jl_cons je_int jl_nil)) jl_nil))))))))))) (jg_name nd rfl (by first | exact .inl rfl | exact .inr rfl) (by decide))
  (js_one (js_if (jt_not (jt_val (jq_e (je_f (jf_call D__law_is_told (hr.mono (by decide)) cx_tk (ja_cons (jq_e (je_f (jf_call D__law_numbered (hr.mono (by decide)) cx_tk (ja_cons (jq_e (je_nm (i := 5))) (ja_cons (jq_e (je_nm (i := 6))) ja_nil))))) (ja_cons (jq_e (je_tup (jl_cons je_str (jl_cons (je_nm (i := 6)) jl_nil)))) ja_nil)))))))
  (js_one (js_ret je_bl)) js_nil)))
  (js_cons (js_if (jt_val (jq_e (je_any rfl G.n_any (jq_e (je_f (jf_lc rfl nd (ji_seq (je_f (jf_lst (jl_cons (je_ix u1 (jq_var (i := 3)) (jq_e je_int)) (jl_cons je_str (jl_cons (je_mul (jq_e (je_ix u1 (jq_var (i := 4)) (jq_e je_int))) (jq_e je_int)) (jl_cons je_non (jl_cons je_int (jl_cons (je_tup (jl_cons (je_ix u1 (jq_var (i := 4)) (jq_e je_int)) jl_nil)) (jl_cons (je_f (jf_lst (jl_cons (je_ix u1 (jq_var (i := 4)) (jq_e je_int)) jl_nil))) (jl_cons (je_f jf_dnew) jl_nil))))))))))) (own := [("_law_thing", 9)]) (by rfl) (by decide) (tg_name (by decide) (by decide)) (fun _ _ _ _ _ => pg_name nd rfl (by first | exact .inl rfl | exact .inr rfl)) (fun _ _ _ _ _ => jts_nil) (fun _ _ _ _ _ => (je_inO D_Order___contains__ (hr.mono (by decide)) takes0 (jq_e (je_nm (i := 9))) (jq_e (je_nm (i := 5)))))))))))
  (js_one (js_ret je_bl)) js_nil)
  (js_cons (js_if (jt_w (jw_and (jt_gt  (jq_e (je_len G.n_len (jq_var (i := 4)))) (jq_e je_int)) (jw_and1 (jt_inO D_Order___contains__ (hr.mono (by decide)) cx_tk (jq_e (je_nm (i := 4))) (jq_e (je_nm (i := 5)))))))
  (js_one (js_ret je_bl)) js_nil)
  (js_cons (js_setF (i := 7) nd rfl (by first | exact .inl rfl | exact .inr rfl) (jf_negO D_Order___neg__ (hr.mono (by decide)) cx_tk (jq_e (je_nm (i := 5)))) (by decide))
  (js_cons (js_if (jt_w (jw_or (jt_ne u64 (jq_e (je_fld G.f_letters (jq_var (i := 7)))) (jq_e (je_rev (jq_var (i := 4))))) (jw_or (jt_ne u64 (jq_e (je_fld G.f_letters (jq_var (i := 5)))) (jq_var (i := 4))) (jw_or1 (jt_not (jt_eqO D_Order___eq__ (fun C h => (G.o_Order C h).1) (hr.mono (by decide)) cx_tk (jq_e (je_f (jf_negO D_Order___neg__ (hr.mono (by decide)) cx_tk (jq_e (je_nm (i := 7)))))) (jq_e (je_nm (i := 5)))))))))
  (js_one (js_ret je_bl)) js_nil)
  (js_cons (js_set (i := 8) nd rfl (by first | exact .inl rfl | exact .inr rfl) (je_add (jq_e (je_f (jf_lst (jl_cons (je_f (jf_make D_Order___init__ (hr.mono (by decide)) cx_tk (jl_cons (je_add (jq_var (i := 4)) (jq_e (je_ix u1 (jq_var (i := 3)) (jq_e je_int)))) jl_nil))) (jl_cons (je_nm (i := 4)) (jl_cons (je_f (jf_listA rfl G.n_list (jq_var (i := 4)) boot_list')) (jl_cons je_non jl_nil))))))) (jq_e (je_mul (jq_e (je_f (jf_lst (jl_cons (je_nm (i := 7)) jl_nil)))) (jq_e (je_int1 G.n_int (jq_e (je_gt  (jq_e (je_len G.n_len (jq_var (i := 4)))) (jq_e je_int)))))))) (by decide))
  (js_cons (js_if (jt_w (jw_or (jt_val (jq_e (je_any rfl G.n_any (jq_e (je_f (jf_lc rfl nd (ji_seq (je_nm (i := 8))) (own := [("_law_other", 10)]) (by rfl) (by decide) (tg_name (by decide) (by decide)) (fun _ _ _ _ _ => pg_name nd rfl (by first | exact .inl rfl | exact .inr rfl)) (fun _ _ _ _ _ => jts_nil) (fun _ _ _ _ _ => (je_or (je_eqO D_Order___eq__ (fun C h => (G.o_Order C h).1) (hr.mono (by decide)) takes0 (jq_e (je_nm (i := 5))) (jq_e (je_nm (i := 10)))) (je_one (je_not (je_neO D_Order___eq__ G.o_Order (hr.mono (by decide)) takes0 (jq_e (je_nm (i := 5))) (jq_e (je_nm (i := 10)))))))))))))) (jw_or1 (jt_neO D_Order___eq__ G.o_Order (hr.mono (by decide)) cx_tk (jq_e (je_nm (i := 5))) (jq_e (je_f (jf_make D_Order___init__ (hr.mono (by decide)) cx_tk (jl_cons (je_nm (i := 4)) jl_nil))))))))
  (js_one (js_ret je_bl)) js_nil)
  (js_one (js_for cx_po rfl (ji_seq (je_f (jf_call D__law_spoilt (hr.mono (by decide)) cx_tk (ja_cons (jq_var (i := 2)) (ja_cons (jq_e (je_nm (i := 4))) ja_nil))))) (jg_name nd rfl (by first | exact .inl rfl | exact .inr rfl) (by decide))
  (js_one (js_if (jt_not (jt_val (jq_e (je_f (jf_call D__law_is_told (hr.mono (by decide)) cx_tk (ja_cons (jq_e (je_f (jf_call D__law_refused (hr.mono (by decide)) cx_tk (ja_cons (jq_e (je_nm (i := 9))) ja_nil)))) (ja_cons (jq_e (je_tup (jl_cons je_str (jl_cons (je_nm (i := 9)) jl_nil)))) ja_nil)))))))
  (js_one (js_ret je_bl)) js_nil))))))))))))))))))
  (js_one (js_ret je_bl)))
end
section
variable {w : World} {K : PySem.W.Frag} {h : Heap} {mg : Str → Option Value}
theorem sc__law_pool : FnScope N__law_pool ["_law_cell_here"] (defScope s__law_pool) := ⟨rfl, rfl, rfl, by decide +kernel, rfl, by decide +kernel, by decide +kernel⟩
def d__law_pool : He.DefD := ⟨("_law_pool", none), "_law_pool", "_law_pool", defArgs s__law_pool, defBody s__law_pool, defScope s__law_pool, [], []⟩
theorem sc__law_cell : FnScope N__law_cell ["_law_script", "_law_k"] (defScope s__law_cell) := ⟨rfl, rfl, rfl, by decide +kernel, rfl, by decide +kernel, by decide +kernel⟩
def d__law_cell : He.DefD := ⟨("_law_cell", none), "_law_cell", "_law_cell", defArgs s__law_cell, defBody s__law_cell, defScope s__law_cell, [], []⟩
theorem sc__law_take : FnScope N__law_take ["_law_pool_here", "_law_many"] (defScope s__law_take) := ⟨rfl, rfl, rfl, by decide +kernel, rfl, by decide +kernel, by decide +kernel⟩
def d__law_take : He.DefD := ⟨("_law_take", none), "_law_take", "_law_take", defArgs s__law_take, defBody s__law_take, defScope s__law_take, [], []⟩
theorem sc__law_mixed : FnScope N__law_mixed ["_law_pool_here", "_law_things"] (defScope s__law_mixed) := ⟨rfl, rfl, rfl, by decide +kernel, rfl, by decide +kernel, by decide +kernel⟩
def d__law_mixed : He.DefD := ⟨("_law_mixed", none), "_law_mixed", "_law_mixed", defArgs s__law_mixed, defBody s__law_mixed, defScope s__law_mixed, [], []⟩
theorem sc_are_letters : FnScope N_are_letters ["thing"] (defScope s_are_letters) := ⟨rfl, rfl, rfl, by decide +kernel, rfl, by decide +kernel, by decide +kernel⟩
def d_are_letters : He.DefD := ⟨("are_letters", none), "are_letters", "are_letters", defArgs s_are_letters, defBody s_are_letters, defScope s_are_letters, [], []⟩
theorem sc_Order___init__ : FnScope N_Order___init__ ["self", "letters"] (defScope s_Order___init__) := ⟨rfl, rfl, rfl, by decide +kernel, rfl, by decide +kernel, by decide +kernel⟩
def d_Order___init__ : He.DefD := ⟨("Order", some "__init__"), "__init__", "Order.__init__", defArgs s_Order___init__, defBody s_Order___init__, defScope s_Order___init__, [], []⟩
theorem sc_Order___len__ : FnScope N_Order___len__ ["self"] (defScope s_Order___len__) := ⟨rfl, rfl, rfl, by decide +kernel, rfl, by decide +kernel, by decide +kernel⟩
def d_Order___len__ : He.DefD := ⟨("Order", some "__len__"), "__len__", "Order.__len__", defArgs s_Order___len__, defBody s_Order___len__, defScope s_Order___len__, [], []⟩
theorem sc_is_number : FnScope N_is_number ["thing"] (defScope s_is_number) := ⟨rfl, rfl, rfl, by decide +kernel, rfl, by decide +kernel, by decide +kernel⟩
def d_is_number : He.DefD := ⟨("is_number", none), "is_number", "is_number", defArgs s_is_number, defBody s_is_number, defScope s_is_number, [], []⟩
theorem sc_Order___getitem__ : FnScope N_Order___getitem__ ["self", "at"] (defScope s_Order___getitem__) := ⟨rfl, rfl, rfl, by decide +kernel, rfl, by decide +kernel, by decide +kernel⟩
def d_Order___getitem__ : He.DefD := ⟨("Order", some "__getitem__"), "__getitem__", "Order.__getitem__", defArgs s_Order___getitem__, defBody s_Order___getitem__, defScope s_Order___getitem__, [], []⟩
theorem sc__law_numbered : FnScope N__law_numbered ["_law_order", "_law_at"] (defScope s__law_numbered) := ⟨rfl, rfl, rfl, by decide +kernel, rfl, by decide +kernel, by decide +kernel⟩
def d__law_numbered : He.DefD := ⟨("_law_numbered", none), "_law_numbered", "_law_numbered", defArgs s__law_numbered, defBody s__law_numbered, defScope s__law_numbered, [], []⟩
theorem sc_Order___contains__ : FnScope N_Order___contains__ ["self", "thing"] (defScope s_Order___contains__) := ⟨rfl, rfl, rfl, by decide +kernel, rfl, by decide +kernel, by decide +kernel⟩
def d_Order___contains__ : He.DefD := ⟨("Order", some "__contains__"), "__contains__", "Order.__contains__", defArgs s_Order___contains__, defBody s_Order___contains__, defScope s_Order___contains__, [], []⟩
theorem sc__law_is_told : FnScope N__law_is_told ["_law_told", "_law_due"] (defScope s__law_is_told) := ⟨rfl, rfl, rfl, by decide +kernel, rfl, by decide +kernel, by decide +kernel⟩
def d__law_is_told : He.DefD := ⟨("_law_is_told", none), "_law_is_told", "_law_is_told", defArgs s__law_is_told, defBody s__law_is_told, defScope s__law_is_told, [], []⟩
theorem sc_Order___neg__ : FnScope N_Order___neg__ ["self"] (defScope s_Order___neg__) := ⟨rfl, rfl, rfl, by decide +kernel, rfl, by decide +kernel, by decide +kernel⟩
def d_Order___neg__ : He.DefD := ⟨("Order", some "__neg__"), "__neg__", "Order.__neg__", defArgs s_Order___neg__, defBody s_Order___neg__, defScope s_Order___neg__, [], []⟩
theorem sc_Order___eq__ : FnScope N_Order___eq__ ["self", "other"] (defScope s_Order___eq__) := ⟨rfl, rfl, rfl, by decide +kernel, rfl, by decide +kernel, by decide +kernel⟩
def d_Order___eq__ : He.DefD := ⟨("Order", some "__eq__"), "__eq__", "Order.__eq__", defArgs s_Order___eq__, defBody s_Order___eq__, defScope s_Order___eq__, [], []⟩
theorem sc__law_spoilt : FnScope N__law_spoilt ["_law_pool_here", "_law_letters"] (defScope s__law_spoilt) := ⟨rfl, rfl, rfl, by decide +kernel, rfl, by decide +kernel, by decide +kernel⟩
def d__law_spoilt : He.DefD := ⟨("_law_spoilt", none), "_law_spoilt", "_law_spoilt", defArgs s__law_spoilt, defBody s__law_spoilt, defScope s__law_spoilt, [], []⟩
theorem sc__law_refused : FnScope N__law_refused ["_law_thing"] (defScope s__law_refused) := ⟨rfl, rfl, rfl, by decide +kernel, rfl, by decide +kernel, by decide +kernel⟩
def d__law_refused : He.DefD := ⟨("_law_refused", none), "_law_refused", "_law_refused", defArgs s__law_refused, defBody s__law_refused, defScope s__law_refused, [], []⟩
theorem sc_law : FnScope N_law ["_law_script"] (defScope s_law) := ⟨rfl, rfl, rfl, by decide +kernel, rfl, by decide +kernel, by decide +kernel⟩
def d_law : He.DefD := ⟨("law", none), "law", "law", defArgs s_law, defBody s_law, defScope s_law, [], []⟩
def xi_BadOrder : DLH.XiD := ⟨"BadOrder", "BadOrder.__init__", defArgs (mth 6 0), defBody (mth 6 0), defScope (mth 6 0), ["letters"]⟩
theorem xs_BadOrder : DLH.XiS xi_BadOrder := ⟨⟨_, _, _, _, _, _, _, _, rfl, (.cons (by decide) .nil), by simp, (.cons (by decide) .nil), rfl, rfl, fun _ _ _ _ _ _ _ _ us hl => (match us, hl with | [_], _ => rfl), rfl, rfl, rfl, by decide +kernel, rfl, by decide +kernel, rfl, rfl, fun _ => ⟨_, rfl⟩, by decide +kernel, by decide +kernel, by decide⟩⟩
def xi_NoLetter : DLH.XiD := ⟨"NoLetter", "NoLetter.__init__", defArgs (mth 7 0), defBody (mth 7 0), defScope (mth 7 0), ["letter"]⟩
theorem xs_NoLetter : DLH.XiS xi_NoLetter := ⟨⟨_, _, _, _, _, _, _, _, rfl, (.cons (by decide) .nil), by simp, (.cons (by decide) .nil), rfl, rfl, fun _ _ _ _ _ _ _ _ us hl => (match us, hl with | [_], _ => rfl), rfl, rfl, rfl, by decide +kernel, rfl, by decide +kernel, rfl, rfl, fun _ => ⟨_, rfl⟩, by decide +kernel, by decide +kernel, by decide⟩⟩
def fn : List He.DefD := [d__law_pool, d__law_cell, d__law_take, d__law_mixed, d_are_letters, d_Order___init__, d_Order___len__, d_is_number, d_Order___getitem__, d__law_numbered, d_Order___contains__, d__law_is_told, d_Order___neg__, d_Order___eq__, d__law_spoilt, d__law_refused, d_law]
def xi : List DLH.XiD := [xi_BadOrder, xi_NoLetter]
def fa : List He.Fa := [.free "all",
  .free "any",
  .free "bool",
  .free "enumerate",
  .free "int",
  .free "isinstance",
  .free "len",
  .free "list",
  .free "range",
  .free "set",
  .free "str",
  .free "super",
  .str "SIGNS" "abcdefghijklmnopqrstuvwxyz",
  .glo "Order",
  .cls "Order",
  .noat "Order" "letters",
  .noat "Order" "ranks",
  .noat "BadOrder" "letters",
  .glo "BadOrder",
  .noat "NoLetter" "letter",
  .glo "NoLetter",
  .exm "BadOrder" "BadOrder" true,
  .exm "NoLetter" "BadOrder" false,
  .glo "RowError",
  .exm "RowError" "BadOrder" false,
  .exm "NoLetter" "NoLetter" true,
  .exm "BadOrder" "NoLetter" false,
  .exm "RowError" "NoLetter" false,
  .glo "_law_pool",
  .glo "_law_cell",
  .glo "_law_take",
  .glo "_law_mixed",
  .glo "are_letters",
  .mkr "Order",
  .meth "Order" "__len__",
  .glo "is_number",
  .meth "Order" "__getitem__",
  .glo "_law_numbered",
  .meth "Order" "__contains__",
  .glo "_law_is_told",
  .meth "Order" "__neg__",
  .meth "Order" "__eq__",
  .glo "_law_spoilt",
  .glo "_law_refused",
  .glo "law"]
def ex (K : PySem.W.Frag) : Bool := (ownB K (He.ga K "Order") && (isB K (He.ga K "Order") bs_Order co_Order && ((["BadOrder", "NoLetter"] : List Str).all fun n => xfB K (He.ga K n))))
theorem gx (X : K.In h) (G : h.Ns mainGlobals mg) (c : DLH.SaysW PySem.Challenge.pw_endrows_k02_orders_made fa fn xi ex K) : Gx PySem.Challenge.pw_endrows_k02_orders_made K mg where
  n_all := He.free_ok X G (c.fact 0 (f := .free "all") rfl)
  n_any := He.free_ok X G (c.fact 1 (f := .free "any") rfl)
  n_bool := He.free_ok X G (c.fact 2 (f := .free "bool") rfl)
  n_enumerate := He.free_ok X G (c.fact 3 (f := .free "enumerate") rfl)
  n_int := He.free_ok X G (c.fact 4 (f := .free "int") rfl)
  n_isinstance := He.free_ok X G (c.fact 5 (f := .free "isinstance") rfl)
  n_len := He.free_ok X G (c.fact 6 (f := .free "len") rfl)
  n_list := He.free_ok X G (c.fact 7 (f := .free "list") rfl)
  n_range := He.free_ok X G (c.fact 8 (f := .free "range") rfl)
  n_set := He.free_ok X G (c.fact 9 (f := .free "set") rfl)
  n_str := He.free_ok X G (c.fact 10 (f := .free "str") rfl)
  n_super := He.free_ok X G (c.fact 11 (f := .free "super") rfl)
  g_SIGNS := He.str_ok X G (c.fact 12 (f := .str "SIGNS" "abcdefghijklmnopqrstuvwxyz") rfl)
  f_letters := (fld_cons (He.glo_ok X G (c.fact 13 (f := .glo "Order") rfl)) (He.cls_ok (c.fact 14 (f := .cls "Order") rfl)) (He.noat_ok (c.fact 15 (f := .noat "Order" "letters") rfl)) fld_nil)
  f_ranks := (fld_cons (He.glo_ok X G (c.fact 13 (f := .glo "Order") rfl)) (He.cls_ok (c.fact 14 (f := .cls "Order") rfl)) (He.noat_ok (c.fact 16 (f := .noat "Order" "ranks") rfl)) fld_nil)
  is_Order := isx_of (He.glo_ok X G (c.fact 13 (f := .glo "Order") rfl)) ((Bool.and_eq_true_iff.mp (Bool.and_eq_true_iff.mp c.extra).2).1) (icl_cons (He.glo_ok X G (c.fact 13 (f := .glo "Order") rfl)) (He.cls_ok (c.fact 14 (f := .cls "Order") rfl)) icl_nil)
  is_bool := ist_ty (by decide +kernel)
  is_int := ist_ty (by decide +kernel)
  is_str := ist_ty (by decide +kernel)
  x_BadOrder := c.exc X G (by rfl) (He.free_ok X G (c.fact 11 (f := .free "super") rfl)) 0 (d := xi_BadOrder) rfl xs_BadOrder
  x_NoLetter := c.exc X G (by rfl) (He.free_ok X G (c.fact 11 (f := .free "super") rfl)) 1 (d := xi_NoLetter) rfl xs_NoLetter
  xf_BadOrder_letters := xf_of X G (c.fact 17 (f := .noat "BadOrder" "letters") rfl) (c.fact 18 (f := .glo "BadOrder") rfl) (List.all_eq_true.mp ((Bool.and_eq_true_iff.mp (Bool.and_eq_true_iff.mp c.extra).2).2) "BadOrder" (by decide))
  xf_NoLetter_letter := xf_of X G (c.fact 19 (f := .noat "NoLetter" "letter") rfl) (c.fact 20 (f := .glo "NoLetter") rfl) (List.all_eq_true.mp ((Bool.and_eq_true_iff.mp (Bool.and_eq_true_iff.mp c.extra).2).2) "NoLetter" (by decide))
  h_BadOrder := ⟨_, He.glo_ok X G (c.fact 18 (f := .glo "BadOrder") rfl), (ys_cons (He.glo_ok X G (c.fact 18 (f := .glo "BadOrder") rfl)) (He.exm_ok (c.fact 21 (f := .exm "BadOrder" "BadOrder" true) rfl)) ys_nil), (ys_cons (He.glo_ok X G (c.fact 23 (f := .glo "RowError") rfl)) (He.exm_ok (c.fact 24 (f := .exm "RowError" "BadOrder" false) rfl)) (ys_cons (He.glo_ok X G (c.fact 20 (f := .glo "NoLetter") rfl)) (He.exm_ok (c.fact 22 (f := .exm "NoLetter" "BadOrder" false) rfl)) ys_nil))⟩
  h_NoLetter := ⟨_, He.glo_ok X G (c.fact 20 (f := .glo "NoLetter") rfl), (ys_cons (He.glo_ok X G (c.fact 20 (f := .glo "NoLetter") rfl)) (He.exm_ok (c.fact 25 (f := .exm "NoLetter" "NoLetter" true) rfl)) ys_nil), (ys_cons (He.glo_ok X G (c.fact 23 (f := .glo "RowError") rfl)) (He.exm_ok (c.fact 27 (f := .exm "RowError" "NoLetter" false) rfl)) (ys_cons (He.glo_ok X G (c.fact 18 (f := .glo "BadOrder") rfl)) (He.exm_ok (c.fact 26 (f := .exm "BadOrder" "NoLetter" false) rfl)) ys_nil))⟩
  o_Order := ownK_of (He.glo_ok X G (c.fact 13 (f := .glo "Order") rfl)) ((Bool.and_eq_true_iff.mp c.extra).1)
  z := True.intro
theorem facts {f : Addr} (X : K.In h) (G : h.Ns mainGlobals mg) (hfa : mg ("law" : Str) = some (.ref f)) (c : DLH.SaysW PySem.Challenge.pw_endrows_k02_orders_made fa fn xi ex K) : ∃ fd : FuncData, (∀ (s : Shared) (v : Value), BindsTo s fd ⟨[v], []⟩ [("_law_script", v)]) ∧ ∀ base : Heap, K.In base → base.Ns mainGlobals mg → FnOk PySem.Challenge.pw_endrows_k02_orders_made w K mg base (CXW PySem.Challenge.pw_endrows_k02_orders_made) 5 f fd ["_law_script"] (spD K mg 1 [] f_law) := by
  obtain ⟨fd__law_pool, F__law_pool⟩ := c.def_ 0 (d := d__law_pool) rfl
  have D__law_pool : ∀ base : Heap, Df PySem.Challenge.pw_endrows_k02_orders_made w K mg base "_law_pool" 1 1 [] f__law_pool := fun base => df_of F__law_pool sc__law_pool rfl (by decide) (fun _ _ _ _ _ _ us hl => match us, hl with | [_], _ => rfl) (He.glo_ok X G (c.fact 28 (f := .glo "_law_pool") rfl)) (j__law_pool (base := base) (gx X G c) )
  obtain ⟨fd__law_cell, F__law_cell⟩ := c.def_ 1 (d := d__law_cell) rfl
  have D__law_cell : ∀ base : Heap, Df PySem.Challenge.pw_endrows_k02_orders_made w K mg base "_law_cell" 1 2 [] f__law_cell := fun base => df_of F__law_cell sc__law_cell rfl (by decide) (fun _ _ _ _ _ _ us hl => match us, hl with | [_, _], _ => rfl) (He.glo_ok X G (c.fact 29 (f := .glo "_law_cell") rfl)) (j__law_cell (base := base) (gx X G c) )
  obtain ⟨fd__law_take, F__law_take⟩ := c.def_ 2 (d := d__law_take) rfl
  have D__law_take : ∀ base : Heap, Df PySem.Challenge.pw_endrows_k02_orders_made w K mg base "_law_take" 1 2 [0] f__law_take := fun base => df_of F__law_take sc__law_take rfl (by decide) (fun _ _ _ _ _ _ us hl => match us, hl with | [_, _], _ => rfl) (He.glo_ok X G (c.fact 30 (f := .glo "_law_take") rfl)) (j__law_take (base := base) (gx X G c) )
  obtain ⟨fd__law_mixed, F__law_mixed⟩ := c.def_ 3 (d := d__law_mixed) rfl
  have D__law_mixed : ∀ base : Heap, Df PySem.Challenge.pw_endrows_k02_orders_made w K mg base "_law_mixed" 2 2 [0] f__law_mixed := fun base => df_of F__law_mixed sc__law_mixed rfl (by decide) (fun _ _ _ _ _ _ us hl => match us, hl with | [_, _], _ => rfl) (He.glo_ok X G (c.fact 31 (f := .glo "_law_mixed") rfl)) (j__law_mixed (base := base) (gx X G c) (D__law_take base))
  obtain ⟨fd_are_letters, F_are_letters⟩ := c.def_ 4 (d := d_are_letters) rfl
  have D_are_letters : ∀ base : Heap, Df PySem.Challenge.pw_endrows_k02_orders_made w K mg base "are_letters" 1 1 [] f_are_letters := fun base => df_of F_are_letters sc_are_letters rfl (by decide) (fun _ _ _ _ _ _ us hl => match us, hl with | [_], _ => rfl) (He.glo_ok X G (c.fact 32 (f := .glo "are_letters") rfl)) (j_are_letters (base := base) (gx X G c) )
  obtain ⟨fd_Order___init__, F_Order___init__⟩ := c.def_ 5 (d := d_Order___init__) rfl
  have D_Order___init__ : ∀ base : Heap, Dk PySem.Challenge.pw_endrows_k02_orders_made w K mg base "Order" 2 2 f_Order___init__ := fun base => dk_of F_Order___init__ sc_Order___init__ rfl (by decide) (fun _ _ _ _ _ _ us hl => match us, hl with | [_, _], _ => rfl) (He.glo_ok X G (c.fact 13 (f := .glo "Order") rfl)) (He.mkr_ok (c.fact 33 (f := .mkr "Order") rfl)) (j_Order___init__ (base := base) (gx X G c) (D_are_letters base))
  obtain ⟨fd_Order___len__, F_Order___len__⟩ := c.def_ 6 (d := d_Order___len__) rfl
  have D_Order___len__ : ∀ base : Heap, Do PySem.Challenge.pw_endrows_k02_orders_made w K mg base "Order" "__len__" 1 1 f_Order___len__ := fun base => do_of F_Order___len__ sc_Order___len__ rfl (by decide) (fun _ _ _ _ _ _ us hl => match us, hl with | [_], _ => rfl) (He.glo_ok X G (c.fact 13 (f := .glo "Order") rfl)) (He.meth_ok (c.fact 34 (f := .meth "Order" "__len__") rfl)) (j_Order___len__ (base := base) (gx X G c) )
  obtain ⟨fd_is_number, F_is_number⟩ := c.def_ 7 (d := d_is_number) rfl
  have D_is_number : ∀ base : Heap, Df PySem.Challenge.pw_endrows_k02_orders_made w K mg base "is_number" 1 1 [] f_is_number := fun base => df_of F_is_number sc_is_number rfl (by decide) (fun _ _ _ _ _ _ us hl => match us, hl with | [_], _ => rfl) (He.glo_ok X G (c.fact 35 (f := .glo "is_number") rfl)) (j_is_number (base := base) (gx X G c) )
  obtain ⟨fd_Order___getitem__, F_Order___getitem__⟩ := c.def_ 8 (d := d_Order___getitem__) rfl
  have D_Order___getitem__ : ∀ base : Heap, Do PySem.Challenge.pw_endrows_k02_orders_made w K mg base "Order" "__getitem__" 2 2 f_Order___getitem__ := fun base => do_of F_Order___getitem__ sc_Order___getitem__ rfl (by decide) (fun _ _ _ _ _ _ us hl => match us, hl with | [_, _], _ => rfl) (He.glo_ok X G (c.fact 13 (f := .glo "Order") rfl)) (He.meth_ok (c.fact 36 (f := .meth "Order" "__getitem__") rfl)) (j_Order___getitem__ (base := base) (gx X G c) (D_is_number base))
  obtain ⟨fd__law_numbered, F__law_numbered⟩ := c.def_ 9 (d := d__law_numbered) rfl
  have D__law_numbered : ∀ base : Heap, Df PySem.Challenge.pw_endrows_k02_orders_made w K mg base "_law_numbered" 4 2 [] f__law_numbered := fun base => df_of F__law_numbered sc__law_numbered rfl (by decide) (fun _ _ _ _ _ _ us hl => match us, hl with | [_, _], _ => rfl) (He.glo_ok X G (c.fact 37 (f := .glo "_law_numbered") rfl)) (j__law_numbered (base := base) (gx X G c) (D_Order___getitem__ base))
  obtain ⟨fd_Order___contains__, F_Order___contains__⟩ := c.def_ 10 (d := d_Order___contains__) rfl
  have D_Order___contains__ : ∀ base : Heap, Do PySem.Challenge.pw_endrows_k02_orders_made w K mg base "Order" "__contains__" 1 2 f_Order___contains__ := fun base => do_of F_Order___contains__ sc_Order___contains__ rfl (by decide) (fun _ _ _ _ _ _ us hl => match us, hl with | [_, _], _ => rfl) (He.glo_ok X G (c.fact 13 (f := .glo "Order") rfl)) (He.meth_ok (c.fact 38 (f := .meth "Order" "__contains__") rfl)) (j_Order___contains__ (base := base) (gx X G c) )
  obtain ⟨fd__law_is_told, F__law_is_told⟩ := c.def_ 11 (d := d__law_is_told) rfl
  have D__law_is_told : ∀ base : Heap, Df PySem.Challenge.pw_endrows_k02_orders_made w K mg base "_law_is_told" 1 2 [] f__law_is_told := fun base => df_of F__law_is_told sc__law_is_told rfl (by decide) (fun _ _ _ _ _ _ us hl => match us, hl with | [_, _], _ => rfl) (He.glo_ok X G (c.fact 39 (f := .glo "_law_is_told") rfl)) (j__law_is_told (base := base) (gx X G c) )
  obtain ⟨fd_Order___neg__, F_Order___neg__⟩ := c.def_ 12 (d := d_Order___neg__) rfl
  have D_Order___neg__ : ∀ base : Heap, Do PySem.Challenge.pw_endrows_k02_orders_made w K mg base "Order" "__neg__" 4 1 f_Order___neg__ := fun base => do_of F_Order___neg__ sc_Order___neg__ rfl (by decide) (fun _ _ _ _ _ _ us hl => match us, hl with | [_], _ => rfl) (He.glo_ok X G (c.fact 13 (f := .glo "Order") rfl)) (He.meth_ok (c.fact 40 (f := .meth "Order" "__neg__") rfl)) (j_Order___neg__ (base := base) (gx X G c) (D_Order___init__ base))
  obtain ⟨fd_Order___eq__, F_Order___eq__⟩ := c.def_ 13 (d := d_Order___eq__) rfl
  have D_Order___eq__ : ∀ base : Heap, Do PySem.Challenge.pw_endrows_k02_orders_made w K mg base "Order" "__eq__" 1 2 f_Order___eq__ := fun base => do_of F_Order___eq__ sc_Order___eq__ rfl (by decide) (fun _ _ _ _ _ _ us hl => match us, hl with | [_, _], _ => rfl) (He.glo_ok X G (c.fact 13 (f := .glo "Order") rfl)) (He.meth_ok (c.fact 41 (f := .meth "Order" "__eq__") rfl)) (j_Order___eq__ (base := base) (gx X G c) )
  obtain ⟨fd__law_spoilt, F__law_spoilt⟩ := c.def_ 14 (d := d__law_spoilt) rfl
  have D__law_spoilt : ∀ base : Heap, Df PySem.Challenge.pw_endrows_k02_orders_made w K mg base "_law_spoilt" 2 2 [0] f__law_spoilt := fun base => df_of F__law_spoilt sc__law_spoilt rfl (by decide) (fun _ _ _ _ _ _ us hl => match us, hl with | [_, _], _ => rfl) (He.glo_ok X G (c.fact 42 (f := .glo "_law_spoilt") rfl)) (j__law_spoilt (base := base) (gx X G c) (D__law_take base))
  obtain ⟨fd__law_refused, F__law_refused⟩ := c.def_ 15 (d := d__law_refused) rfl
  have D__law_refused : ∀ base : Heap, Df PySem.Challenge.pw_endrows_k02_orders_made w K mg base "_law_refused" 4 1 [] f__law_refused := fun base => df_of F__law_refused sc__law_refused rfl (by decide) (fun _ _ _ _ _ _ us hl => match us, hl with | [_], _ => rfl) (He.glo_ok X G (c.fact 43 (f := .glo "_law_refused") rfl)) (j__law_refused (base := base) (gx X G c) (D_Order___init__ base))
  obtain ⟨fd_law, F_law⟩ := c.def_ 16 (d := d_law) rfl
  have e := hfa.symm.trans (He.glo_ok X G (c.fact 44 (f := .glo "law") rfl))
  cases e
  have b := FunD.bindsA (ps := ["_law_script"]) F_law fun _ _ _ _ _ _ us hl => match us, hl with | [_], _ => rfl
  exact ⟨fd_law, fun s v => b s [v] rfl, fun base _ _ => fn_cxw (fn_ok F_law sc_law rfl (by decide) (j_law (base := base) (gx X G c) (D__law_pool base) (D__law_cell base) (D__law_mixed base) (D__law_take base) (D_Order___init__ base) (D_Order___len__ base) (D__law_numbered base) (D_Order___contains__ base) (D__law_is_told base) (D_Order___neg__ base) (D_Order___eq__ base) (D__law_spoilt base) (D__law_refused base)))⟩
end
end Lw
end
section
set_option Elab.async false
set_option linter.all false
set_option maxRecDepth 100000
set_option maxHeartbeats 2000000
namespace Lw
open PySem PySem.Spec PyProof.Rows L2 DL DLO DG
abbrev pl (i j c : Int) : Dt := .lst [.int i, .int j, .int c]
structure Pk (n : Nat) (i j c : Int) : Prop where
  i0 : 0 ≤ i
  j0 : 0 ≤ j
  j1 : j < 1000000007
  c0 : 0 ≤ c
  c1 : c ≤ n
theorem take_ok {n : Nat} {i j c m : Int} (hn : n ≤ 1000) (P : Pk n i j c) (h1 : 1 ≤ m) (h2 : m < 1000) :
    ∃ r i' c', 0 ≤ r ∧ r < m ∧ Pk (n + 1) i' j c' ∧ f__law_take [.o (pl i j c), .v (.int m)] = .ret (.v (.int r)) [some (.o (pl i' j c')), some (.v (.int m))] := by
  obtain ⟨i0, j0, j1, c0, hc⟩ := P
  by_cases hi : 0 < i
  · refine ⟨i % m, i / m, c, Int.emod_nonneg _ (by omega), Int.emod_lt_of_pos _ (by omega), ⟨Int.ediv_nonneg i0 (by omega), j0, j1, c0, by omega⟩, ?_⟩
    have hm : 0 < m := by omega
    have hm2 : m < 1073741824 := by omega
    simp [f__law_take, runF, c__law_take, seqS, ifS, bindS, bindR, isBl, c2, c1, cD, cSlot, DL.ret, lift, der, deref, dGt, dIx, fI, atI_0, atI_1, atI_2, hi, setS, setR, dMod, dInt, hm, hm2, setIxS, dFdv, ixN_0, ixN_2, retV, Tr.fz]
  · have hm : 0 < m := by omega
    have hb : (j + 7919 * (c + 1) + 104729).natAbs < 18446744073709551616 := by omega
    have hx : ∀ x y : Int, ((x + y) * 40692 % 2147483629) = ((x + y) * 40692 % 2147483629) := fun _ _ => rfl
    refine ⟨((j + 7919 * (c + 1) + 104729) ^ 5 % 2147483647 + (c + 1)) * 40692 % 2147483629 % m, i, c + 1, Int.emod_nonneg _ (by omega), Int.emod_lt_of_pos _ (by omega), ⟨i0, j0, j1, by omega, by omega⟩, ?_⟩
    simp [f__law_take, runF, c__law_take, seqS, ifS, bindS, bindR, isBl, c2, c1, cD, cSlot, DL.ret, lift, der, deref, dGt, dIx, fI, atI_0, atI_1, atI_2, hi, setS, setR, dMod, dInt, hm, setIxS, dFdv, ixN_0, ixN_2, retV, Tr.fz, dAdd, dPow, dMul, bMul, hb, retS, nextS]
theorem take_n {n m : Nat} {i j c : Int} (hn : n ≤ 1000) (P : Pk n i j c) (h1 : 1 ≤ m) (h2 : m < 1000) :
    ∃ (r : Nat) (i' c' : Int), r < m ∧ Pk (n + 1) i' j c' ∧ f__law_take [.o (pl i j c), .v (.int (m : Nat))] = .ret (.v (.int (r : Nat))) [some (.o (pl i' j c')), some (.v (.int (m : Nat)))] := by
  obtain ⟨r, i', c', r0, r1, P', e⟩ := take_ok (m := (m : Int)) hn P (by omega) (by omega)
  obtain ⟨k, rfl⟩ := Int.eq_ofNat_of_zero_le r0
  exact ⟨k, i', c', by omega, P', e⟩
theorem pool_ok (x : Int) : ∃ i j, Pk 0 i j 0 ∧ f__law_pool [.v (.int x)] = .ret (.o (pl i j 0)) [some (.v (.int x))] := by
  by_cases hx : x < 0
  · by_cases hb : 1000000000000000000 ≤ -(2 * x) - 1
    · refine ⟨-(2 * x) - 1, (-(2 * x) - 1) % 1000000007, ⟨by omega, by omega, by omega, by omega, by omega⟩, ?_⟩
      simp [f__law_pool, runF, c__law_pool, seqS, ifS, bindS, bindR, isBl, c2, c1, cD, cSlot, DL.ret, lift, der, deref, dLt, dGe, fI, hx, hb, setS, setR, dMod, dInt, Tr.fz, dSub, dPow, dMul, bMul, retF, nextS, cLst, cCons, cVar, fits, sizeLine_eq]
      try omega
    · refine ⟨0, (-(2 * x) - 1) % 1000000007, ⟨by omega, by omega, by omega, by omega, by omega⟩, ?_⟩
      simp [f__law_pool, runF, c__law_pool, seqS, ifS, bindS, bindR, isBl, c2, c1, cD, cSlot, DL.ret, lift, der, deref, dLt, dGe, fI, hx, hb, setS, setR, dMod, dInt, Tr.fz, dSub, dPow, dMul, bMul, retF, nextS, cLst, cCons, cVar, fits, sizeLine_eq]
      try omega
  · by_cases hb : 1000000000000000000 ≤ 2 * x
    · refine ⟨2 * x, (2 * x) % 1000000007, ⟨by omega, by omega, by omega, by omega, by omega⟩, ?_⟩
      simp [f__law_pool, runF, c__law_pool, seqS, ifS, bindS, bindR, isBl, c2, c1, cD, cSlot, DL.ret, lift, der, deref, dLt, dGe, fI, hx, hb, setS, setR, dMod, dInt, Tr.fz, dSub, dPow, dMul, bMul, retF, nextS, cLst, cCons, cVar, fits, sizeLine_eq]
      try omega
    · refine ⟨0, (2 * x) % 1000000007, ⟨by omega, by omega, by omega, by omega, by omega⟩, ?_⟩
      simp [f__law_pool, runF, c__law_pool, seqS, ifS, bindS, bindR, isBl, c2, c1, cD, cSlot, DL.ret, lift, der, deref, dLt, dGe, fI, hx, hb, setS, setR, dMod, dInt, Tr.fz, dSub, dPow, dMul, bMul, retF, nextS, cLst, cCons, cVar, fits, sizeLine_eq]
      try omega
theorem cell_ok (ns : List Int) (k : Nat) : ∃ z, f__law_cell [.v (.scr ns), .v (.int k)] = .ret (.v (.int z)) [some (.v (.scr ns)), some (.v (.int k))] := by
  by_cases h : k < ns.length
  · have h2 : (k : Int) < (ns.length : Int) := by omega
    exact ⟨ns[k], by simp [f__law_cell, runF, c__law_cell, seqS, ifS, bindS, bindR, isBl, c2, c1, cD, cSlot, DL.ret, lift, der, deref, dLt, fI, h, h2, Tr.fz, retS, dLen, dIx, atI_nat h]⟩
  · have h2 : ¬ (k : Int) < (ns.length : Int) := by omega
    exact ⟨0, by simp [f__law_cell, runF, c__law_cell, seqS, ifS, bindS, bindR, isBl, c2, c1, cD, cSlot, DL.ret, lift, der, deref, dLt, fI, h, h2, Tr.fz, retS, dLen, dIx, nextS]⟩
end Lw
end
section
set_option Elab.async false
set_option linter.all false
set_option maxRecDepth 100000
set_option maxHeartbeats 4000000
namespace Lw
open PySem PySem.Spec PyProof.Rows L2 DL DLO DG
theorem isi_str_non : dIsi bs_str co_str .non = some (.bl false) := rfl
theorem isi_str_bl {b : Bool} : dIsi bs_str co_str (.bl b) = some (.bl false) := rfl
theorem isi_str_int {i : Int} : dIsi bs_str co_str (.int i) = some (.bl false) := rfl
theorem isi_str_str {s : List Nat} : dIsi bs_str co_str (.str s) = some (.bl true) := rfl
theorem isi_str_tup {ds : List Dt} : dIsi bs_str co_str (.tup ds) = some (.bl false) := rfl
theorem isi_str_lst {ds : List Dt} : dIsi bs_str co_str (.lst ds) = some (.bl false) := rfl
theorem isi_str_dic {k : Nat} {kv : List (Dt × Dt)} : dIsi bs_str co_str (.dic k kv) = some (.bl false) := rfl
theorem isi_int_non : dIsi bs_int co_int .non = some (.bl false) := rfl
theorem isi_int_bl {b : Bool} : dIsi bs_int co_int (.bl b) = some (.bl true) := rfl
theorem isi_int_int {i : Int} : dIsi bs_int co_int (.int i) = some (.bl true) := rfl
theorem isi_int_str {s : List Nat} : dIsi bs_int co_int (.str s) = some (.bl false) := rfl
theorem isi_int_tup {ds : List Dt} : dIsi bs_int co_int (.tup ds) = some (.bl false) := rfl
theorem isi_int_lst {ds : List Dt} : dIsi bs_int co_int (.lst ds) = some (.bl false) := rfl
theorem isi_int_dic {k : Nat} {kv : List (Dt × Dt)} : dIsi bs_int co_int (.dic k kv) = some (.bl false) := rfl
theorem isi_bool_non : dIsi bs_bool co_bool .non = some (.bl false) := rfl
theorem isi_bool_bl {b : Bool} : dIsi bs_bool co_bool (.bl b) = some (.bl true) := rfl
theorem isi_bool_int {i : Int} : dIsi bs_bool co_bool (.int i) = some (.bl false) := rfl
theorem isi_bool_str {s : List Nat} : dIsi bs_bool co_bool (.str s) = some (.bl false) := rfl
theorem isi_bool_tup {ds : List Dt} : dIsi bs_bool co_bool (.tup ds) = some (.bl false) := rfl
theorem isi_bool_lst {ds : List Dt} : dIsi bs_bool co_bool (.lst ds) = some (.bl false) := rfl
theorem isi_bool_dic {k : Nat} {kv : List (Dt × Dt)} : dIsi bs_bool co_bool (.dic k kv) = some (.bl false) := rfl
theorem isi_Order_non : dIsi bs_Order co_Order .non = some (.bl false) := rfl
theorem isi_Order_bl {b : Bool} : dIsi bs_Order co_Order (.bl b) = some (.bl false) := rfl
theorem isi_Order_int {i : Int} : dIsi bs_Order co_Order (.int i) = some (.bl false) := rfl
theorem isi_Order_str {s : List Nat} : dIsi bs_Order co_Order (.str s) = some (.bl false) := rfl
theorem isi_Order_tup {ds : List Dt} : dIsi bs_Order co_Order (.tup ds) = some (.bl false) := rfl
theorem isi_Order_lst {ds : List Dt} : dIsi bs_Order co_Order (.lst ds) = some (.bl false) := rfl
theorem isi_Order_dic {k : Nat} {kv : List (Dt × Dt)} : dIsi bs_Order co_Order (.dic k kv) = some (.bl false) := rfl
theorem isi_Order_ord {fs : List (Str × Dt)} : dIsi bs_Order co_Order (.obj "Order" fs) = some (.bl true) := rfl
theorem Pk.mono {n m : Nat} {i j c : Int} (P : Pk n i j c) (h : n ≤ m) : Pk m i j c := ⟨P.i0, P.j0, P.j1, P.c0, by have := P.c1; omega⟩
theorem cut_take {α : Type} {xs : List α} {r : Nat} : DL.cutD xs none (some (r : Int)) = xs.take r := by
  unfold DL.cutD
  rw [HT.sIx_nat, HT.sIx_none, List.drop_zero, Nat.sub_zero]
  rcases Nat.le_total r xs.length with h | h
  · rw [Nat.min_eq_left h]
  · rw [Nat.min_eq_right h, List.take_length, List.take_of_length_le h]
theorem cut_drop1 {α : Type} {xs : List α} {r : Nat} : DL.cutD xs (some ((r : Int) + 1)) none = xs.drop (r + 1) := by
  have := cut_drop (xs := xs) (r := r + 1)
  rwa [Int.natCast_add] at this
abbrev sgs (l : List Nat) : Dt := .lst (l.map fun c => sg c)
abbrev bodyM : S := (seqS (setF 5 (cCall 2 [0] f__law_take (aCons (cSlot 0) (aCons (cD (DL.c1 dLen (cSlot 2))) (DL.ret [])))))
  (seqS (exprS (appC 3 (DL.c2 dIx (cSlot 2) (cSlot 5))))
  (setS 2 (DL.c2 dAdd (cD (cSl (cSlot 2) (DL.ret none) (cPart (cVar 5)))) (cD (cSl (cSlot 2) (cPart (DL.c2 dAdd (cSlot 5) (cD (DL.ret (.int 1))))) (DL.ret none)))))))
theorem turn_M {t : Nat} {i j c : Int} {left found : List Nat} {x : Tr} {th k o5 : Option Tr} (hx : x.fz = sgs left) (ht : t ≤ 1000) (P : Pk t i j c) (h1 : 1 ≤ left.length) (h2 : left.length ≤ 26) (h3 : found.length ≤ 26) :
    ∃ (r : Nat) (i' c' : Int) (o5' : Option Tr) (hr : r < left.length), Pk (t + 1) i' j c' ∧ bodyM [some (.o (pl i j c)), th, some x, some (.o (sgs found)), k, o5] = .next [some (.o (pl i' j c')), th, some (.v (sgs (left.take r ++ left.drop (r + 1)))), some (.o (sgs (found ++ [left[r]]))), k, o5'] := by
  obtain ⟨r, i', c', r1, P', e⟩ := take_n (m := left.length) ht P h1 (by omega)
  have ix : atI (left.map fun c => sg c) ((r : Nat) : Int) = some (sg left[r]) := by
    rw [atI_nat (by simpa using r1)]
    simp
  have f1 : fits (min r left.length + (left.length - (r + 1))) = true := fits_s (by omega)
  have f2 : found.length < sizeLine := by rw [sizeLine_eq]; omega
  refine ⟨r, i', c', some (.v (.int (r : Nat))), r1, P', ?_⟩
  cases x with
  | v d =>
    have hx' : d = sgs left := hx
    subst hx'
    simp [runF, seqS, ifS, bindS, bindR, isBl, DL.c2, DL.c1, cD, cSlot, cVar, DL.ret, lift, der, deref, setS, setR, setF, setIxS, retS, retF, retV, nextS, exprS, Tr.fz, frz, cCall, aCons, callR, argTs, argT, slotsOk, posOf, backR, cCons, cTup, cLst, cTru, cNotB, cNotV, cOrB, cAndB, cAndV, cOrV, cNeg, cPart, cSl, appC, cFld, fldS, cMake, makeR, raiseS, fsD, tryS, handle, noX, wipeO, xfC, cOwn1, cOwn2, cOwn2r, cLenO, lenT, cInO, inT, cOwnE, DLO.eqT, DLO.neT, cListA, listA, putD, isi_str_non, isi_str_bl, isi_str_int, isi_str_str, isi_str_tup, isi_str_lst, isi_str_dic, isi_int_non, isi_int_bl, isi_int_int, isi_int_str, isi_int_tup, isi_int_lst, isi_int_dic, isi_bool_non, isi_bool_bl, isi_bool_int, isi_bool_str, isi_bool_tup, isi_bool_lst, isi_bool_dic, isi_Order_non, isi_Order_bl, isi_Order_int, isi_Order_str, isi_Order_tup, isi_Order_lst, isi_Order_dic, isi_Order_ord, truD, dLen, dInt, dLt, dLe, dGt, dGe, fI, atI_0, atI_1, atI_2, e, dIx, ix, dSl, cut_take, cut_drop1, dAdd, f1, f2]
  | o d =>
    have hx' : d = sgs left := hx
    subst hx'
    simp [runF, seqS, ifS, bindS, bindR, isBl, DL.c2, DL.c1, cD, cSlot, cVar, DL.ret, lift, der, deref, setS, setR, setF, setIxS, retS, retF, retV, nextS, exprS, Tr.fz, frz, cCall, aCons, callR, argTs, argT, slotsOk, posOf, backR, cCons, cTup, cLst, cTru, cNotB, cNotV, cOrB, cAndB, cAndV, cOrV, cNeg, cPart, cSl, appC, cFld, fldS, cMake, makeR, raiseS, fsD, tryS, handle, noX, wipeO, xfC, cOwn1, cOwn2, cOwn2r, cLenO, lenT, cInO, inT, cOwnE, DLO.eqT, DLO.neT, cListA, listA, putD, isi_str_non, isi_str_bl, isi_str_int, isi_str_str, isi_str_tup, isi_str_lst, isi_str_dic, isi_int_non, isi_int_bl, isi_int_int, isi_int_str, isi_int_tup, isi_int_lst, isi_int_dic, isi_bool_non, isi_bool_bl, isi_bool_int, isi_bool_str, isi_bool_tup, isi_bool_lst, isi_bool_dic, isi_Order_non, isi_Order_bl, isi_Order_int, isi_Order_str, isi_Order_tup, isi_Order_lst, isi_Order_dic, isi_Order_ord, truD, dLen, dInt, dLt, dLe, dGt, dGe, fI, atI_0, atI_1, atI_2, e, dIx, ix, dSl, cut_take, cut_drop1, dAdd, f1, f2]
end Lw
end
section
set_option Elab.async false
set_option linter.all false
set_option maxRecDepth 100000
set_option maxHeartbeats 4000000
namespace Lw
open PySem PySem.Spec PyProof.Rows L2 DL DLO DG
theorem loop_M {th : Option Tr} {j : Int} : ∀ (ks : List Int) {t : Nat} {i c : Int} {left found : List Nat} {x : Tr} {o4 o5 : Option Tr}, x.fz = sgs left → ks.length = left.length → found.length + left.length ≤ 26 → t + ks.length ≤ 1000 → Pk t i j c →
    ∃ (S : List Nat) (i' c' : Int) (x' : Tr) (o4' o5' : Option Tr), S.Perm (found ++ left) ∧ Pk (t + ks.length) i' j c' ∧ loopD (gNm 4) bodyM (ks.map Dt.int) [some (.o (pl i j c)), th, some x, some (.o (sgs found)), o4, o5] = .next [some (.o (pl i' j c')), th, some x', some (.o (sgs S)), o4', o5']
  | [], t, i, c, left, found, x, o4, o5, hx, hk, h1, h2, P => by
    have : left = [] := List.length_eq_zero_iff.mp hk.symm
    subst this
    exact ⟨found, i, c, x, o4, o5, by simp, P, rfl⟩
  | k :: ks, t, i, c, left, found, x, o4, o5, hx, hk, h1, h2, P => by
    simp only [List.length_cons] at hk h2
    obtain ⟨r, i1, c1, o51, hr, P1, e1⟩ := turn_M (x := x) (th := th) (k := some (.v (.int k))) (o5 := o5) (left := left) (found := found) hx (by omega) P (by omega) (by omega) (by omega)
    have hl : (left.take r ++ left.drop (r + 1)).length = left.length - 1 := by
      rw [List.length_append, List.length_take, List.length_drop]
      omega
    obtain ⟨S, i', c', x', o4', o5', hS, P', e2⟩ := loop_M (th := th) (j := j) ks (t := t + 1) (left := left.take r ++ left.drop (r + 1)) (found := found ++ [left[r]]) (x := .v (sgs (left.take r ++ left.drop (r + 1)))) (o4 := some (.v (.int k))) (o5 := o51) rfl (by omega) (by rw [hl, List.length_append, List.length_singleton]; omega) (by omega) P1
    refine ⟨S, i', c', x', o4', o5', hS.trans ?_, P'.mono (by simp only [List.length_cons]; omega), ?_⟩
    · have e : left = left.take r ++ left[r] :: left.drop (r + 1) := by
        rw [List.getElem_cons_drop, List.take_append_drop]
      rw [List.append_assoc]
      conv => rhs; rw [e]
      refine List.Perm.append_left found ?_
      show (left[r] :: (List.take r left ++ List.drop (r + 1) left)).Perm _
      exact (List.perm_middle).symm
    · exact (loop_cons (g := gNm 4) (d := .int k) rfl e1).trans e2
theorem mixed_ok {t : Nat} {i j c : Int} {A : List Nat} (ht : t + A.length ≤ 1000) (P : Pk t i j c) (hA : A.length ≤ 26) :
    ∃ (S : List Nat) (i' c' : Int), S.Perm A ∧ Pk (t + A.length) i' j c' ∧ f__law_mixed [.o (pl i j c), .v (.str A)] = .ret (.o (sgs S)) [some (.o (pl i' j c')), some (.v (.str A))] := by
  have lk : ((List.range A.length).map fun k => (0 : Int) + (k : Nat)).length = A.length := by rw [List.length_map, List.length_range]
  obtain ⟨S, i', c', x', o4', o5', hS, P', e⟩ := loop_M (th := some (.v (.str A))) ((List.range A.length).map fun k => (0 : Int) + (k : Nat)) (t := t) (left := A) (found := []) (x := .o (sgs A)) (o4 := none) (o5 := none) rfl lk (by simpa using hA) (by rw [lk]; exact ht) P
  rw [lk] at P'
  refine ⟨S, i', c', by simpa using hS, P', ?_⟩
  have f1 : fits A.length = true := fits_s (by omega)
  refine runF_ret (ρ0 := [some (.o (pl i j c)), some (.v (.str A)), none, none, none, none]) (ρ := [some (.o (pl i' j c')), some (.v (.str A)), some x', none, o4', o5']) ?_ rfl
  have s1 : setF 2 (cListA (cSlot 1)) [some (.o (pl i j c)), some (.v (.str A)), none, none, none, none] = .next [some (.o (pl i j c)), some (.v (.str A)), some (.o (sgs A)), none, none, none] := by
    simp [runF, seqS, ifS, bindS, bindR, isBl, DL.c2, DL.c1, cD, cSlot, cVar, DL.ret, lift, der, deref, setS, setR, setF, setIxS, retS, retF, retV, nextS, exprS, Tr.fz, frz, cCall, aCons, callR, argTs, argT, slotsOk, posOf, backR, cCons, cTup, cLst, cTru, cNotB, cNotV, cOrB, cAndB, cAndV, cOrV, cNeg, cPart, cSl, appC, cFld, fldS, cMake, makeR, raiseS, fsD, tryS, handle, noX, wipeO, xfC, cOwn1, cOwn2, cOwn2r, cLenO, lenT, cInO, inT, cOwnE, DLO.eqT, DLO.neT, cListA, listA, putD, isi_str_non, isi_str_bl, isi_str_int, isi_str_str, isi_str_tup, isi_str_lst, isi_str_dic, isi_int_non, isi_int_bl, isi_int_int, isi_int_str, isi_int_tup, isi_int_lst, isi_int_dic, isi_bool_non, isi_bool_bl, isi_bool_int, isi_bool_str, isi_bool_tup, isi_bool_lst, isi_bool_dic, isi_Order_non, isi_Order_bl, isi_Order_int, isi_Order_str, isi_Order_tup, isi_Order_lst, isi_Order_dic, isi_Order_ord, truD, dLen, dInt, dLt, dLe, dGt, dGe, fI, atI_0, atI_1, atI_2, f1]
  have s2 : setF 3 (cLst (DL.ret [])) [some (.o (pl i j c)), some (.v (.str A)), some (.o (sgs A)), none, none, none] = .next [some (.o (pl i j c)), some (.v (.str A)), some (.o (sgs A)), some (.o (sgs [])), none, none] := by
    have f0 : fits 0 = true := fits_s (by omega)
    simp [runF, seqS, ifS, bindS, bindR, isBl, DL.c2, DL.c1, cD, cSlot, cVar, DL.ret, lift, der, deref, setS, setR, setF, setIxS, retS, retF, retV, nextS, exprS, Tr.fz, frz, cCall, aCons, callR, argTs, argT, slotsOk, posOf, backR, cCons, cTup, cLst, cTru, cNotB, cNotV, cOrB, cAndB, cAndV, cOrV, cNeg, cPart, cSl, appC, cFld, fldS, cMake, makeR, raiseS, fsD, tryS, handle, noX, wipeO, xfC, cOwn1, cOwn2, cOwn2r, cLenO, lenT, cInO, inT, cOwnE, DLO.eqT, DLO.neT, cListA, listA, putD, isi_str_non, isi_str_bl, isi_str_int, isi_str_str, isi_str_tup, isi_str_lst, isi_str_dic, isi_int_non, isi_int_bl, isi_int_int, isi_int_str, isi_int_tup, isi_int_lst, isi_int_dic, isi_bool_non, isi_bool_bl, isi_bool_int, isi_bool_str, isi_bool_tup, isi_bool_lst, isi_bool_dic, isi_Order_non, isi_Order_bl, isi_Order_int, isi_Order_str, isi_Order_tup, isi_Order_lst, isi_Order_dic, isi_Order_ord, truD, dLen, dInt, dLt, dLe, dGt, dGe, fI, atI_0, atI_1, atI_2, f0]
  have s3 : cRng1 (cCons (DL.c1 dLen (cSlot 1)) (DL.ret [])) [some (.o (pl i j c)), some (.v (.str A)), some (.o (sgs A)), some (.o (sgs [])), none, none] = .ok (((List.range A.length).map fun k => (0 : Int) + (k : Nat)).map Dt.int) [some (.o (pl i j c)), some (.v (.str A)), some (.o (sgs A)), some (.o (sgs [])), none, none] := by
    rw [← rangeL_map]
    refine rng_of (n := A.length) (by omega) ?_
    simp [runF, seqS, ifS, bindS, bindR, isBl, DL.c2, DL.c1, cD, cSlot, cVar, DL.ret, lift, der, deref, setS, setR, setF, setIxS, retS, retF, retV, nextS, exprS, Tr.fz, frz, cCall, aCons, callR, argTs, argT, slotsOk, posOf, backR, cCons, cTup, cLst, cTru, cNotB, cNotV, cOrB, cAndB, cAndV, cOrV, cNeg, cPart, cSl, appC, cFld, fldS, cMake, makeR, raiseS, fsD, tryS, handle, noX, wipeO, xfC, cOwn1, cOwn2, cOwn2r, cLenO, lenT, cInO, inT, cOwnE, DLO.eqT, DLO.neT, cListA, listA, putD, isi_str_non, isi_str_bl, isi_str_int, isi_str_str, isi_str_tup, isi_str_lst, isi_str_dic, isi_int_non, isi_int_bl, isi_int_int, isi_int_str, isi_int_tup, isi_int_lst, isi_int_dic, isi_bool_non, isi_bool_bl, isi_bool_int, isi_bool_str, isi_bool_tup, isi_bool_lst, isi_bool_dic, isi_Order_non, isi_Order_bl, isi_Order_int, isi_Order_str, isi_Order_tup, isi_Order_lst, isi_Order_dic, isi_Order_ord, truD, dLen, dInt, dLt, dLe, dGt, dGe, fI, atI_0, atI_1, atI_2, f1]
  exact (seqS_next s1).trans ((seqS_next s2).trans ((seqS_next ((forS_ok s3).trans e)).trans rfl))
end Lw
end
section
set_option Elab.async false
set_option linter.all false
set_option maxRecDepth 100000
set_option maxHeartbeats 4000000
namespace Lw
open PySem PySem.Spec PyProof.Rows L2 DL DLO DG
def areL (s : List Nat) : Bool := (decide (s ≠ []) && (s.all fun c => decide (c ∈ alph))) && decide ((s.foldl ded []).length = s.length)
theorem al_str {s : List Nat} (hL : ∀ c ∈ s, c < 1000) (hl : s.length ≤ 100) : f_are_letters [.v (.str s)] = .ret (.v (.bl (areL s))) [some (.v (.str s))] := by
  refine runF_ret (ρ := [some (.v (.str s)), none]) (ρ0 := [some (.v (.str s)), none]) ?_ rfl
  have e2 : dEq (.str s) (.str []) = some (.bl (decide (s = []))) := dec_str hL [] (fun c h => by cases h)
  have hi : cIter (cVar 0) [some (.v (.str s)), none] = .ok (s.map fun c => sg c) [some (.v (.str s)), none] := bind_lift (var_ok rfl) rfl
  have h2 := cLc_map (k := 1) (ce := DL.c2 dIn (cSlot 1) (cD (DL.ret (.str alph)))) (f := fun d => match d with | .str [c] => .bl (decide (c ∈ alph)) | _ => .non) hi rfl rfl (fun d hd => by
    obtain ⟨c, hc, rfl⟩ := List.mem_map.mp hd
    exact c2_ok (slot_ok (t := .v (sg c)) rfl) (cD_ok rfl) (dsl (t := .v (sg c)) rfl) dd dIn_str) (by rw [List.length_map]; omega)
  rw [List.map_map] at h2
  have hall : DL.c1 dAll (cD (frz (cLc [1] (cIter (cVar 0)) (gNm 1) (DL.ret true) (DL.c2 dIn (cSlot 1) (cD (DL.ret (.str alph))))))) [some (.v (.str s)), none] = .ok (.bl (s.all fun c => decide (c ∈ alph))) [some (.v (.str s)), none] := by
    refine c1_ok (cD_ok (frz_ok h2)) dd ?_
    show (blsOf (s.map fun c => Dt.bl (decide (c ∈ alph)))).map _ = _
    rw [bls_map]
    simp [Function.comp_def]
  have fl : fits s.length = true := fits_s (by omega)
  have ls : bindR (cVar 0) (fun d => lift (dLenSet d)) [some (.v (.str s)), none] = .ok (.int (s.foldl ded []).length) [some (.v (.str s)), none] := by
    refine bind_lift (f := dLenSet) (var_ok (d := .str s) rfl) ?_
    show (if s.length + 1 < scanBound then some (Dt.int (s.foldl ded []).length) else none) = _
    rw [if_pos (by unfold scanBound; omega)]
  have key : ∀ (q : C Dt) (b1 : Bool), q [some (.v (.str s)), none] = .ok (.bl b1) [some (.v (.str s)), none] → ifS (cOrB (cNotB (cTru (cD (DL.c1 (dIsi bs_str co_str) (cSlot 0))))) (cOrB (isBl (DL.c2 dEq (cSlot 0) (cD (DL.ret (.str []))))) (cNotB (cTru (cD q))))) (retS (DL.ret (.bl false))) nextS [some (.v (.str s)), none] = if (decide (s ≠ []) && b1) = true then .next [some (.v (.str s)), none] else .ret (.v (.bl false)) [some (.v (.str s)), none] := by
    intro q b1 hq
    by_cases hs : s = []
    · subst hs
      have e3 : dEq (.str []) (.str []) = some (.bl true) := e2
      simp [runF, seqS, ifS, bindS, bindR, isBl, DL.c2, DL.c1, cD, cSlot, cVar, DL.ret, lift, der, deref, setS, setR, setF, setIxS, retS, retF, retV, nextS, exprS, Tr.fz, frz, cCall, aCons, callR, argTs, argT, slotsOk, posOf, backR, cCons, cTup, cLst, cTru, cNotB, cNotV, cOrB, cAndB, cAndV, cOrV, cNeg, cPart, cSl, appC, cFld, fldS, cMake, makeR, raiseS, fsD, tryS, handle, noX, wipeO, xfC, cOwn1, cOwn2, cOwn2r, cLenO, lenT, cInO, inT, cOwnE, DLO.eqT, DLO.neT, cListA, listA, putD, isi_str_non, isi_str_bl, isi_str_int, isi_str_str, isi_str_tup, isi_str_lst, isi_str_dic, isi_int_non, isi_int_bl, isi_int_int, isi_int_str, isi_int_tup, isi_int_lst, isi_int_dic, isi_bool_non, isi_bool_bl, isi_bool_int, isi_bool_str, isi_bool_tup, isi_bool_lst, isi_bool_dic, isi_Order_non, isi_Order_bl, isi_Order_int, isi_Order_str, isi_Order_tup, isi_Order_lst, isi_Order_dic, isi_Order_ord, truD, dLen, dInt, dLt, dLe, dGt, dGe, fI, atI_0, atI_1, atI_2, e3]
    · rw [decide_eq_false hs] at e2
      cases b1 <;> simp [runF, seqS, ifS, bindS, bindR, isBl, DL.c2, DL.c1, cD, cSlot, cVar, DL.ret, lift, der, deref, setS, setR, setF, setIxS, retS, retF, retV, nextS, exprS, Tr.fz, frz, cCall, aCons, callR, argTs, argT, slotsOk, posOf, backR, cCons, cTup, cLst, cTru, cNotB, cNotV, cOrB, cAndB, cAndV, cOrV, cNeg, cPart, cSl, appC, cFld, fldS, cMake, makeR, raiseS, fsD, tryS, handle, noX, wipeO, xfC, cOwn1, cOwn2, cOwn2r, cLenO, lenT, cInO, inT, cOwnE, DLO.eqT, DLO.neT, cListA, listA, putD, isi_str_non, isi_str_bl, isi_str_int, isi_str_str, isi_str_tup, isi_str_lst, isi_str_dic, isi_int_non, isi_int_bl, isi_int_int, isi_int_str, isi_int_tup, isi_int_lst, isi_int_dic, isi_bool_non, isi_bool_bl, isi_bool_int, isi_bool_str, isi_bool_tup, isi_bool_lst, isi_bool_dic, isi_Order_non, isi_Order_bl, isi_Order_int, isi_Order_str, isi_Order_tup, isi_Order_lst, isi_Order_dic, isi_Order_ord, truD, dLen, dInt, dLt, dLe, dGt, dGe, fI, atI_0, atI_1, atI_2, e2, hs, hq]
  have s2 : retS (DL.c2 dEq (cD (bindR (cVar 0) fun d => lift (dLenSet d))) (cD (DL.c1 dLen (cSlot 0)))) [some (.v (.str s)), none] = .ret (.v (.bl (decide ((s.foldl ded []).length = s.length)))) [some (.v (.str s)), none] := by
    refine retS_ok (c2_ok (cD_ok ls) (cD_ok (c1_ok (slot_ok (t := .v (.str s)) rfl) (dsl rfl) (show dLen (.str s) = some (.int s.length) by simp [dLen, fl]))) dd dd ?_)
    simp [dEq, okPy, toPy, SeqAt.shaped, PyData.canLay0, PyData.depth, eqvD, PyData.eqv]
    rw [Bool.eq_iff_iff]
    simp
    omega
  have s1 := key _ _ hall
  unfold areL
  cases hb : (decide (s ≠ []) && (s.all fun c => decide (c ∈ alph))) with
  | false =>
    rw [hb, if_neg Bool.false_ne_true] at s1
    have : seqS (ifS (cOrB (cNotB (cTru (cD (DL.c1 (dIsi bs_str co_str) (cSlot 0))))) (cOrB (isBl (DL.c2 dEq (cSlot 0) (cD (DL.ret (.str []))))) (cNotB (cTru (cD (DL.c1 dAll (cD (frz (cLc [1] (cIter (cVar 0)) (gNm 1) (DL.ret true) (DL.c2 dIn (cSlot 1) (cD (DL.ret (.str alph))))))))))))) (retS (DL.ret (.bl false))) nextS) (retS (DL.c2 dEq (cD (bindR (cVar 0) fun d => lift (dLenSet d))) (cD (DL.c1 dLen (cSlot 0))))) [some (.v (.str s)), none] = .ret (.v (.bl false)) [some (.v (.str s)), none] := by
      unfold seqS
      rw [s1]
    exact this
  | true =>
    rw [hb, if_pos rfl] at s1
    exact (seqS_next s1).trans s2
def plainD : Dt → Bool
  | .non => true | .bl _ => true | .int _ => true | .tup _ => true | .lst _ => true | .dic _ _ => true
  | _ => false
theorem al_no {d : Dt} (h : plainD d = true) : f_are_letters [.v d] = .ret (.v (.bl false)) [some (.v d)] := by
  cases d <;> simp only [plainD] at h <;> first | (cases h; done) | simp [runF, seqS, ifS, bindS, bindR, isBl, DL.c2, DL.c1, cD, cSlot, cVar, DL.ret, lift, der, deref, setS, setR, setF, setIxS, retS, retF, retV, nextS, exprS, Tr.fz, frz, cCall, aCons, callR, argTs, argT, slotsOk, posOf, backR, cCons, cTup, cLst, cTru, cNotB, cNotV, cOrB, cAndB, cAndV, cOrV, cNeg, cPart, cSl, appC, cFld, fldS, cMake, makeR, raiseS, fsD, tryS, handle, noX, wipeO, xfC, cOwn1, cOwn2, cOwn2r, cLenO, lenT, cInO, inT, cOwnE, DLO.eqT, DLO.neT, cListA, listA, putD, isi_str_non, isi_str_bl, isi_str_int, isi_str_str, isi_str_tup, isi_str_lst, isi_str_dic, isi_int_non, isi_int_bl, isi_int_int, isi_int_str, isi_int_tup, isi_int_lst, isi_int_dic, isi_bool_non, isi_bool_bl, isi_bool_int, isi_bool_str, isi_bool_tup, isi_bool_lst, isi_bool_dic, isi_Order_non, isi_Order_bl, isi_Order_int, isi_Order_str, isi_Order_tup, isi_Order_lst, isi_Order_dic, isi_Order_ord, truD, dLen, dInt, dLt, dLe, dGt, dGe, fI, atI_0, atI_1, atI_2, c_are_letters]
theorem areL_of {L : List Nat} (h0 : L ≠ []) (hn : L.Nodup) (ha : ∀ c ∈ L, c ∈ alph) : areL L = true := by
  have hd : L.foldl ded [] = L := by
    have := ded_nodup (l := L) (acc := []) (by simpa using hn)
    simpa using this
  unfold areL
  rw [hd, List.all_eq_true.mpr fun c h => decide_eq_true (ha c h), decide_eq_true h0]
  simp
end Lw
end
section
set_option Elab.async false
set_option linter.all false
set_option maxRecDepth 100000
set_option maxHeartbeats 4000000
namespace Lw
open PySem PySem.Spec PyProof.Rows L2 DL DLO DG
def ord (L : List Nat) : Dt := .obj "Order" [("letters", .str L), ("ranks", .dic 0 (rk 0 L))]
theorem init_bad {d : Dt} (h : f_are_letters [.v d] = .ret (.v (.bl false)) [some (.v d)]) : f_Order___init__ [.o (.obj "Order" []), .v d] = .exc ("BadOrder", [("letters", d)]) [some (.o (.obj "Order" [])), some (.v d)] := by
  simp [runF, seqS, ifS, bindS, bindR, isBl, DL.c2, DL.c1, cD, cSlot, cVar, DL.ret, lift, der, deref, setS, setR, setF, setIxS, retS, retF, retV, nextS, exprS, Tr.fz, frz, cCall, aCons, callR, argTs, argT, slotsOk, posOf, backR, cCons, cTup, cLst, cTru, cNotB, cNotV, cOrB, cAndB, cAndV, cOrV, cNeg, cPart, cSl, appC, cFld, fldS, cMake, makeR, raiseS, fsD, tryS, handle, noX, wipeO, xfC, cOwn1, cOwn2, cOwn2r, cLenO, lenT, cInO, inT, cOwnE, DLO.eqT, DLO.neT, cListA, listA, putD, isi_str_non, isi_str_bl, isi_str_int, isi_str_str, isi_str_tup, isi_str_lst, isi_str_dic, isi_int_non, isi_int_bl, isi_int_int, isi_int_str, isi_int_tup, isi_int_lst, isi_int_dic, isi_bool_non, isi_bool_bl, isi_bool_int, isi_bool_str, isi_bool_tup, isi_bool_lst, isi_bool_dic, isi_Order_non, isi_Order_bl, isi_Order_int, isi_Order_str, isi_Order_tup, isi_Order_lst, isi_Order_dic, isi_Order_ord, truD, dLen, dInt, dLt, dLe, dGt, dGe, fI, atI_0, atI_1, atI_2, c_Order___init__, h]
theorem dc_loop {a : Option Tr} {L : List Nat} : ∀ (rest pre : List Nat), (pre ++ rest).Nodup → (pre ++ rest).length ≤ 1000 →
    dcLoop [2, 3] (gTu 2 (gsN [2, 3])) (DL.ret true) (cVar 3) (cVar 2) (enumI pre.length (rest.map fun c => sg c)) (rk 0 pre) [a, some (.v (.str L)), none, none] = .ok (rk 0 (pre ++ rest)) [a, some (.v (.str L)), none, none]
  | [], pre, _, _ => by rw [List.append_nil]; rfl
  | c :: rest, pre, hn, hl => by
    have hc : c ∉ pre := fun z => (List.nodup_append.mp hn).2.2 c z c List.mem_cons_self rfl
    have hn' : (pre ++ [c] ++ rest).Nodup := by rw [List.append_assoc]; exact hn
    have hl' : (pre ++ [c] ++ rest).length ≤ 1000 := by rw [List.append_assoc]; exact hl
    have hlp : pre.length ≤ 1000 := by rw [List.length_append] at hl; omega
    have ih := dc_loop (a := a) (L := L) rest (pre ++ [c]) hn' hl'
    have e0 : enumI pre.length ((c :: rest).map fun c => sg c) = .tup [.int (pre.length : Nat), sg c] :: enumI (pre.length + 1) (rest.map fun c => sg c) := rfl
    rw [e0, dc_step (vs := [2, 3]) (g := gTu 2 (gsN [2, 3])) (ct := DL.ret true) (ck := cVar 3) (cv := cVar 2) (ρ1 := [a, some (.v (.str L)), some (.v (.int (pre.length : Nat))), some (.v (sg c))]) (ρ2 := [a, some (.v (.str L)), some (.v (.int (pre.length : Nat))), some (.v (sg c))]) rfl rfl (var_ok rfl) (var_ok rfl) ⟨by rw [rk_len, sizeLine_eq]; omega, rfl⟩]
    have hp : dput (rk 0 pre) (sg c) (.int (pre.length : Nat)) = rk 0 (pre ++ [c]) := by
      unfold dput
      rw [rk_none hc, if_neg Bool.false_ne_true, rk_app, Nat.zero_add]
    rw [hp, show wipeR [a, some (.v (.str L)), some (.v (.int (pre.length : Nat))), some (.v (sg c))] [2, 3] = [a, some (.v (.str L)), none, none] from rfl]
    rw [List.length_append, List.length_cons, List.length_nil, Nat.zero_add] at ih
    rw [ih, List.append_assoc]
    rfl
structure Good1 (L : List Nat) : Prop where
  n0 : L ≠ []
  nd : L.Nodup
  al : ∀ c ∈ L, c ∈ alph
  le : L.length ≤ 5
theorem alph_lt {c : Nat} (h : c ∈ alph) : c < 1000 := (by decide : ∀ c ∈ alph, c < 1000) c h
theorem Good1.lt {L : List Nat} (g : Good1 L) : ∀ c ∈ L, c < 1000 := fun c h => alph_lt (g.al c h)
theorem order_ok {L : List Nat} (n0 : L ≠ []) (nd : L.Nodup) (al : ∀ c ∈ L, c ∈ alph) (le : L.length ≤ 26) : f_Order___init__ [.o (.obj "Order" []), .v (.str L)] = .ret (.v .non) [some (.o (ord L)), some (.v (.str L))] := by
  have e := al_str (s := L) (fun c h => alph_lt (al c h)) (by omega)
  rw [areL_of n0 nd al] at e
  refine runF_next (ρ := [some (.o (ord L)), some (.v (.str L)), none, none]) (ρ0 := [some (.o (.obj "Order" [])), some (.v (.str L)), none, none]) ?_ rfl
  have c1' : cCall 1 [] f_are_letters (aCons (cD (cVar 1)) (DL.ret [])) [some (.o (.obj "Order" [])), some (.v (.str L)), none, none] = .ok (.v (.bl true)) [some (.o (.obj "Order" [])), some (.v (.str L)), none, none] := call_ret (acons_ok (cD_ok (var_ok (d := .str L) rfl)) rfl) rfl ⟨rfl, rfl, rfl⟩ e
  have s1 : ifS (cNotB (cTru (cD (frz (cCall 1 [] f_are_letters (aCons (cD (cVar 1)) (DL.ret []))))))) (raiseS "BadOrder" ["letters"] (cCons (cVar 1) (DL.ret []))) nextS [some (.o (.obj "Order" [])), some (.v (.str L)), none, none] = .next [some (.o (.obj "Order" [])), some (.v (.str L)), none, none] :=
    (ifS_ok (not_ok (b := true) (tru_ok (cD_ok (frz_ok c1')) dd rfl))).trans rfl
  have s2 : fldS cs_letters 0 "letters" (cVar 1) [some (.o (.obj "Order" [])), some (.v (.str L)), none, none] = .next [some (.o (.obj "Order" [("letters", .str L)])), some (.v (.str L)), none, none] := fldS_ok (fs := []) (var_ok (d := .str L) rfl) rfl ⟨List.mem_singleton.mpr rfl, by simp⟩
  have hdc : cDc [2, 3] (cEnumS (cVar 1)) (gTu 2 (gsN [2, 3])) (DL.ret true) (cVar 3) (cVar 2) [some (.o (.obj "Order" [("letters", .str L)])), some (.v (.str L)), none, none] = .ok (.o (.dic 0 (rk 0 L))) [some (.o (.obj "Order" [("letters", .str L)])), some (.v (.str L)), none, none] := by
    have he : cEnumS (cVar 1) [some (.o (.obj "Order" [("letters", .str L)])), some (.v (.str L)), none, none] = .ok (enumI 0 (L.map fun c => sg c)) [some (.o (.obj "Order" [("letters", .str L)])), some (.v (.str L)), none, none] := by
      unfold cEnumS
      exact (bind_ok (c := cVar 1) (a := .str L) (ρ := [some (.o (.obj "Order" [("letters", .str L)])), some (.v (.str L)), none, none]) (ρ' := [some (.o (.obj "Order" [("letters", .str L)])), some (.v (.str L)), none, none]) (var_ok rfl)).trans rfl
    have dl := dc_loop (a := some (.o (.obj "Order" [("letters", .str L)]))) (L := L) L [] (by simpa using nd) (by simp; omega)
    unfold cDc
    rw [bind_ok he]
    rw [show wipeR [some (.o (.obj "Order" [("letters", .str L)])), some (.v (.str L)), none, none] [2, 3] = [some (.o (.obj "Order" [("letters", .str L)])), some (.v (.str L)), none, none] from rfl]
    have dl' : dcLoop [2, 3] (gTu 2 (gsN [2, 3])) (DL.ret true) (cVar 3) (cVar 2) (enumI 0 (L.map fun c => sg c)) [] [some (.o (.obj "Order" [("letters", .str L)])), some (.v (.str L)), none, none] = .ok (rk 0 L) [some (.o (.obj "Order" [("letters", .str L)])), some (.v (.str L)), none, none] := dl
    rw [dl']
    rfl
  have s3 : fldS cs_ranks 0 "ranks" (frz (cDc [2, 3] (cEnumS (cVar 1)) (gTu 2 (gsN [2, 3])) (DL.ret true) (cVar 3) (cVar 2))) [some (.o (.obj "Order" [("letters", .str L)])), some (.v (.str L)), none, none] = .next [some (.o (ord L)), some (.v (.str L)), none, none] :=
    (fldS_ok (fs := [("letters", .str L)]) (frz_ok hdc) rfl ⟨List.mem_singleton.mpr rfl, by simp⟩).trans rfl
  exact (seqS_next s1).trans ((seqS_next s2).trans s3)
theorem fld_let {L : List Nat} : dFld cs_letters "letters" (ord L) = some (.str L) := rfl
theorem fld_rks {L : List Nat} : dFld cs_ranks "ranks" (ord L) = some (.dic 0 (rk 0 L)) := rfl
theorem isi_o {L : List Nat} : dIsi bs_Order co_Order (ord L) = some (.bl true) := rfl
theorem len_ok {L : List Nat} (h : L.length ≤ 100) : f_Order___len__ [.v (ord L)] = .ret (.v (.int (L.length : Nat))) [some (.v (ord L))] := by
  have f : fits L.length = true := fits_s (by omega)
  simp [runF, seqS, ifS, bindS, bindR, isBl, DL.c2, DL.c1, cD, cSlot, cVar, DL.ret, lift, der, deref, setS, setR, setF, setIxS, retS, retF, retV, nextS, exprS, Tr.fz, frz, cCall, aCons, callR, argTs, argT, slotsOk, posOf, backR, cCons, cTup, cLst, cTru, cNotB, cNotV, cOrB, cAndB, cAndV, cOrV, cNeg, cPart, cSl, appC, cFld, fldS, cMake, makeR, raiseS, fsD, tryS, handle, noX, wipeO, xfC, cOwn1, cOwn2, cOwn2r, cLenO, lenT, cInO, inT, cOwnE, DLO.eqT, DLO.neT, cListA, listA, putD, isi_str_non, isi_str_bl, isi_str_int, isi_str_str, isi_str_tup, isi_str_lst, isi_str_dic, isi_int_non, isi_int_bl, isi_int_int, isi_int_str, isi_int_tup, isi_int_lst, isi_int_dic, isi_bool_non, isi_bool_bl, isi_bool_int, isi_bool_str, isi_bool_tup, isi_bool_lst, isi_bool_dic, isi_Order_non, isi_Order_bl, isi_Order_int, isi_Order_str, isi_Order_tup, isi_Order_lst, isi_Order_dic, isi_Order_ord, truD, dLen, dInt, dLt, dLe, dGt, dGe, fI, atI_0, atI_1, atI_2, c_Order___len__, fld_let, f]
def inO (L : List Nat) : Dt → Bool
  | .str [c] => decide (c ∈ L)
  | _ => false
theorem dget_ns {s : List Nat} (h : ∀ c, s ≠ [c]) : ∀ {L : List Nat} {i : Nat}, dget (rk i L) (.str s) = none
  | [], _ => rfl
  | d :: L, i => by
    unfold rk dget
    have hs : sameK (sg d) (.str s) = false := by
      simp [sameK]
      exact fun e => h d e.symm
    rw [hs, if_neg Bool.false_ne_true, dget_ns h]
theorem dIn_s {s : List Nat} {L : List Nat} : dIn (.str s) (.dic 0 (rk 0 L)) = some (.bl (inO L (.str s))) := by
  by_cases h : ∃ c, s = [c]
  · obtain ⟨c, rfl⟩ := h
    exact dIn_rk
  · have k : kindOk 0 (.str s) = true := rfl
    have h' : ∀ c, s ≠ [c] := fun c e => h ⟨c, e⟩
    have e : inO L (.str s) = false := by
      unfold inO
      split
      · rename_i c e
        injection e with e
        exact absurd e (h' c)
      · rfl
    unfold dIn isIn
    simp only [k, if_true]
    rw [dget_ns h', e]
    rfl
theorem contains_str {L s : List Nat} : f_Order___contains__ [.v (ord L), .v (.str s)] = .ret (.v (.bl (inO L (.str s)))) [some (.v (ord L)), some (.v (.str s))] := by
  simp [runF, seqS, ifS, bindS, bindR, isBl, DL.c2, DL.c1, cD, cSlot, cVar, DL.ret, lift, der, deref, setS, setR, setF, setIxS, retS, retF, retV, nextS, exprS, Tr.fz, frz, cCall, aCons, callR, argTs, argT, slotsOk, posOf, backR, cCons, cTup, cLst, cTru, cNotB, cNotV, cOrB, cAndB, cAndV, cOrV, cNeg, cPart, cSl, appC, cFld, fldS, cMake, makeR, raiseS, fsD, tryS, handle, noX, wipeO, xfC, cOwn1, cOwn2, cOwn2r, cLenO, lenT, cInO, inT, cOwnE, DLO.eqT, DLO.neT, cListA, listA, putD, isi_str_non, isi_str_bl, isi_str_int, isi_str_str, isi_str_tup, isi_str_lst, isi_str_dic, isi_int_non, isi_int_bl, isi_int_int, isi_int_str, isi_int_tup, isi_int_lst, isi_int_dic, isi_bool_non, isi_bool_bl, isi_bool_int, isi_bool_str, isi_bool_tup, isi_bool_lst, isi_bool_dic, isi_Order_non, isi_Order_bl, isi_Order_int, isi_Order_str, isi_Order_tup, isi_Order_lst, isi_Order_dic, isi_Order_ord, truD, dLen, dInt, dLt, dLe, dGt, dGe, fI, atI_0, atI_1, atI_2, c_Order___contains__, fld_rks, dIn_s]
theorem contains_no {L : List Nat} {d : Dt} (h : plainD d = true) : f_Order___contains__ [.v (ord L), .v d] = .ret (.v (.bl false)) [some (.v (ord L)), some (.v d)] := by
  cases d <;> simp only [plainD] at h <;> first | (cases h; done) | simp [runF, seqS, ifS, bindS, bindR, isBl, DL.c2, DL.c1, cD, cSlot, cVar, DL.ret, lift, der, deref, setS, setR, setF, setIxS, retS, retF, retV, nextS, exprS, Tr.fz, frz, cCall, aCons, callR, argTs, argT, slotsOk, posOf, backR, cCons, cTup, cLst, cTru, cNotB, cNotV, cOrB, cAndB, cAndV, cOrV, cNeg, cPart, cSl, appC, cFld, fldS, cMake, makeR, raiseS, fsD, tryS, handle, noX, wipeO, xfC, cOwn1, cOwn2, cOwn2r, cLenO, lenT, cInO, inT, cOwnE, DLO.eqT, DLO.neT, cListA, listA, putD, isi_str_non, isi_str_bl, isi_str_int, isi_str_str, isi_str_tup, isi_str_lst, isi_str_dic, isi_int_non, isi_int_bl, isi_int_int, isi_int_str, isi_int_tup, isi_int_lst, isi_int_dic, isi_bool_non, isi_bool_bl, isi_bool_int, isi_bool_str, isi_bool_tup, isi_bool_lst, isi_bool_dic, isi_Order_non, isi_Order_bl, isi_Order_int, isi_Order_str, isi_Order_tup, isi_Order_lst, isi_Order_dic, isi_Order_ord, truD, dLen, dInt, dLt, dLe, dGt, dGe, fI, atI_0, atI_1, atI_2, c_Order___contains__]
theorem neg_ok {L : List Nat} (g : Good1 L) : f_Order___neg__ [.v (ord L)] = .ret (.o (ord L.reverse)) [some (.v (ord L))] := by
  have e := order_ok (L := L.reverse) (by simpa using g.n0) (by rw [List.Nodup, List.pairwise_reverse]; exact g.nd.imp fun h => h.symm) (fun c h => g.al c (by simpa using h)) (by have := g.le; simp; omega)
  have f : fits L.length = true := fits_s (by have := g.le; omega)
  simp [runF, seqS, ifS, bindS, bindR, isBl, DL.c2, DL.c1, cD, cSlot, cVar, DL.ret, lift, der, deref, setS, setR, setF, setIxS, retS, retF, retV, nextS, exprS, Tr.fz, frz, cCall, aCons, callR, argTs, argT, slotsOk, posOf, backR, cCons, cTup, cLst, cTru, cNotB, cNotV, cOrB, cAndB, cAndV, cOrV, cNeg, cPart, cSl, appC, cFld, fldS, cMake, makeR, raiseS, fsD, tryS, handle, noX, wipeO, xfC, cOwn1, cOwn2, cOwn2r, cLenO, lenT, cInO, inT, cOwnE, DLO.eqT, DLO.neT, cListA, listA, putD, isi_str_non, isi_str_bl, isi_str_int, isi_str_str, isi_str_tup, isi_str_lst, isi_str_dic, isi_int_non, isi_int_bl, isi_int_int, isi_int_str, isi_int_tup, isi_int_lst, isi_int_dic, isi_bool_non, isi_bool_bl, isi_bool_int, isi_bool_str, isi_bool_tup, isi_bool_lst, isi_bool_dic, isi_Order_non, isi_Order_bl, isi_Order_int, isi_Order_str, isi_Order_tup, isi_Order_lst, isi_Order_dic, isi_Order_ord, truD, dLen, dInt, dLt, dLe, dGt, dGe, fI, atI_0, atI_1, atI_2, c_Order___neg__, fld_let, dRev, f, e]
theorem eq_ord {L M : List Nat} (hL : ∀ c ∈ L, c < 1000) (hM : ∀ c ∈ M, c < 1000) : f_Order___eq__ [.v (ord L), .v (ord M)] = .ret (.v (.bl (decide (L = M)))) [some (.v (ord L)), some (.v (ord M))] := by
  have e := dec_str hL M hM
  simp [runF, seqS, ifS, bindS, bindR, isBl, DL.c2, DL.c1, cD, cSlot, cVar, DL.ret, lift, der, deref, setS, setR, setF, setIxS, retS, retF, retV, nextS, exprS, Tr.fz, frz, cCall, aCons, callR, argTs, argT, slotsOk, posOf, backR, cCons, cTup, cLst, cTru, cNotB, cNotV, cOrB, cAndB, cAndV, cOrV, cNeg, cPart, cSl, appC, cFld, fldS, cMake, makeR, raiseS, fsD, tryS, handle, noX, wipeO, xfC, cOwn1, cOwn2, cOwn2r, cLenO, lenT, cInO, inT, cOwnE, DLO.eqT, DLO.neT, cListA, listA, putD, isi_str_non, isi_str_bl, isi_str_int, isi_str_str, isi_str_tup, isi_str_lst, isi_str_dic, isi_int_non, isi_int_bl, isi_int_int, isi_int_str, isi_int_tup, isi_int_lst, isi_int_dic, isi_bool_non, isi_bool_bl, isi_bool_int, isi_bool_str, isi_bool_tup, isi_bool_lst, isi_bool_dic, isi_Order_non, isi_Order_bl, isi_Order_int, isi_Order_str, isi_Order_tup, isi_Order_lst, isi_Order_dic, isi_Order_ord, truD, dLen, dInt, dLt, dLe, dGt, dGe, fI, atI_0, atI_1, atI_2, c_Order___eq__, fld_let, isi_o, e]
theorem eq_no {L : List Nat} {d : Dt} (h : plainD d = true) : f_Order___eq__ [.v (ord L), .v d] = .ret (.v (.bl false)) [some (.v (ord L)), some (.v d)] := by
  cases d <;> simp only [plainD] at h <;> first | (cases h; done) | simp [runF, seqS, ifS, bindS, bindR, isBl, DL.c2, DL.c1, cD, cSlot, cVar, DL.ret, lift, der, deref, setS, setR, setF, setIxS, retS, retF, retV, nextS, exprS, Tr.fz, frz, cCall, aCons, callR, argTs, argT, slotsOk, posOf, backR, cCons, cTup, cLst, cTru, cNotB, cNotV, cOrB, cAndB, cAndV, cOrV, cNeg, cPart, cSl, appC, cFld, fldS, cMake, makeR, raiseS, fsD, tryS, handle, noX, wipeO, xfC, cOwn1, cOwn2, cOwn2r, cLenO, lenT, cInO, inT, cOwnE, DLO.eqT, DLO.neT, cListA, listA, putD, isi_str_non, isi_str_bl, isi_str_int, isi_str_str, isi_str_tup, isi_str_lst, isi_str_dic, isi_int_non, isi_int_bl, isi_int_int, isi_int_str, isi_int_tup, isi_int_lst, isi_int_dic, isi_bool_non, isi_bool_bl, isi_bool_int, isi_bool_str, isi_bool_tup, isi_bool_lst, isi_bool_dic, isi_Order_non, isi_Order_bl, isi_Order_int, isi_Order_str, isi_Order_tup, isi_Order_lst, isi_Order_dic, isi_Order_ord, truD, dLen, dInt, dLt, dLe, dGt, dGe, fI, atI_0, atI_1, atI_2, c_Order___eq__]
theorem eq_str {L s : List Nat} : f_Order___eq__ [.v (ord L), .v (.str s)] = .ret (.v (.bl false)) [some (.v (ord L)), some (.v (.str s))] := by
  simp [runF, seqS, ifS, bindS, bindR, isBl, DL.c2, DL.c1, cD, cSlot, cVar, DL.ret, lift, der, deref, setS, setR, setF, setIxS, retS, retF, retV, nextS, exprS, Tr.fz, frz, cCall, aCons, callR, argTs, argT, slotsOk, posOf, backR, cCons, cTup, cLst, cTru, cNotB, cNotV, cOrB, cAndB, cAndV, cOrV, cNeg, cPart, cSl, appC, cFld, fldS, cMake, makeR, raiseS, fsD, tryS, handle, noX, wipeO, xfC, cOwn1, cOwn2, cOwn2r, cLenO, lenT, cInO, inT, cOwnE, DLO.eqT, DLO.neT, cListA, listA, putD, isi_str_non, isi_str_bl, isi_str_int, isi_str_str, isi_str_tup, isi_str_lst, isi_str_dic, isi_int_non, isi_int_bl, isi_int_int, isi_int_str, isi_int_tup, isi_int_lst, isi_int_dic, isi_bool_non, isi_bool_bl, isi_bool_int, isi_bool_str, isi_bool_tup, isi_bool_lst, isi_bool_dic, isi_Order_non, isi_Order_bl, isi_Order_int, isi_Order_str, isi_Order_tup, isi_Order_lst, isi_Order_dic, isi_Order_ord, truD, dLen, dInt, dLt, dLe, dGt, dGe, fI, atI_0, atI_1, atI_2, c_Order___eq__]
end Lw
end
section
set_option Elab.async false
set_option linter.all false
set_option maxRecDepth 100000
set_option maxHeartbeats 4000000
namespace Lw
open PySem PySem.Spec PyProof.Rows L2 DL DLO DG
theorem isC_ord {L : List Nat} : isC "Order" (ord L) = true := rfl
theorem isnum_int {n : Int} : f_is_number [.v (.int n)] = .ret (.v (.bl (decide (0 ≤ n)))) [some (.v (.int n))] := by simp [runF, seqS, ifS, bindS, bindR, isBl, DL.c2, DL.c1, cD, cSlot, cVar, DL.ret, lift, der, deref, setS, setR, setF, setIxS, retS, retF, retV, nextS, exprS, Tr.fz, frz, cCall, aCons, callR, argTs, argT, slotsOk, posOf, backR, cCons, cTup, cLst, cTru, cNotB, cNotV, cOrB, cAndB, cAndV, cOrV, cNeg, cPart, cSl, appC, cFld, fldS, cMake, makeR, raiseS, fsD, tryS, handle, noX, wipeO, xfC, cOwn1, cOwn2, cOwn2r, cLenO, lenT, cInO, inT, cOwnE, DLO.eqT, DLO.neT, cListA, listA, putD, isi_str_non, isi_str_bl, isi_str_int, isi_str_str, isi_str_tup, isi_str_lst, isi_str_dic, isi_int_non, isi_int_bl, isi_int_int, isi_int_str, isi_int_tup, isi_int_lst, isi_int_dic, isi_bool_non, isi_bool_bl, isi_bool_int, isi_bool_str, isi_bool_tup, isi_bool_lst, isi_bool_dic, isi_Order_non, isi_Order_bl, isi_Order_int, isi_Order_str, isi_Order_tup, isi_Order_lst, isi_Order_dic, isi_Order_ord, truD, dLen, dInt, dLt, dLe, dGt, dGe, fI, atI_0, atI_1, atI_2, c_is_number]
theorem isnum_bl {b : Bool} : f_is_number [.v (.bl b)] = .ret (.v (.bl false)) [some (.v (.bl b))] := by simp [runF, seqS, ifS, bindS, bindR, isBl, DL.c2, DL.c1, cD, cSlot, cVar, DL.ret, lift, der, deref, setS, setR, setF, setIxS, retS, retF, retV, nextS, exprS, Tr.fz, frz, cCall, aCons, callR, argTs, argT, slotsOk, posOf, backR, cCons, cTup, cLst, cTru, cNotB, cNotV, cOrB, cAndB, cAndV, cOrV, cNeg, cPart, cSl, appC, cFld, fldS, cMake, makeR, raiseS, fsD, tryS, handle, noX, wipeO, xfC, cOwn1, cOwn2, cOwn2r, cLenO, lenT, cInO, inT, cOwnE, DLO.eqT, DLO.neT, cListA, listA, putD, isi_str_non, isi_str_bl, isi_str_int, isi_str_str, isi_str_tup, isi_str_lst, isi_str_dic, isi_int_non, isi_int_bl, isi_int_int, isi_int_str, isi_int_tup, isi_int_lst, isi_int_dic, isi_bool_non, isi_bool_bl, isi_bool_int, isi_bool_str, isi_bool_tup, isi_bool_lst, isi_bool_dic, isi_Order_non, isi_Order_bl, isi_Order_int, isi_Order_str, isi_Order_tup, isi_Order_lst, isi_Order_dic, isi_Order_ord, truD, dLen, dInt, dLt, dLe, dGt, dGe, fI, atI_0, atI_1, atI_2, c_is_number]
theorem isnum_non : f_is_number [.v .non] = .ret (.v (.bl false)) [some (.v .non)] := by simp [runF, seqS, ifS, bindS, bindR, isBl, DL.c2, DL.c1, cD, cSlot, cVar, DL.ret, lift, der, deref, setS, setR, setF, setIxS, retS, retF, retV, nextS, exprS, Tr.fz, frz, cCall, aCons, callR, argTs, argT, slotsOk, posOf, backR, cCons, cTup, cLst, cTru, cNotB, cNotV, cOrB, cAndB, cAndV, cOrV, cNeg, cPart, cSl, appC, cFld, fldS, cMake, makeR, raiseS, fsD, tryS, handle, noX, wipeO, xfC, cOwn1, cOwn2, cOwn2r, cLenO, lenT, cInO, inT, cOwnE, DLO.eqT, DLO.neT, cListA, listA, putD, isi_str_non, isi_str_bl, isi_str_int, isi_str_str, isi_str_tup, isi_str_lst, isi_str_dic, isi_int_non, isi_int_bl, isi_int_int, isi_int_str, isi_int_tup, isi_int_lst, isi_int_dic, isi_bool_non, isi_bool_bl, isi_bool_int, isi_bool_str, isi_bool_tup, isi_bool_lst, isi_bool_dic, isi_Order_non, isi_Order_bl, isi_Order_int, isi_Order_str, isi_Order_tup, isi_Order_lst, isi_Order_dic, isi_Order_ord, truD, dLen, dInt, dLt, dLe, dGt, dGe, fI, atI_0, atI_1, atI_2, c_is_number]
theorem isnum_str {s : List Nat} : f_is_number [.v (.str s)] = .ret (.v (.bl false)) [some (.v (.str s))] := by simp [runF, seqS, ifS, bindS, bindR, isBl, DL.c2, DL.c1, cD, cSlot, cVar, DL.ret, lift, der, deref, setS, setR, setF, setIxS, retS, retF, retV, nextS, exprS, Tr.fz, frz, cCall, aCons, callR, argTs, argT, slotsOk, posOf, backR, cCons, cTup, cLst, cTru, cNotB, cNotV, cOrB, cAndB, cAndV, cOrV, cNeg, cPart, cSl, appC, cFld, fldS, cMake, makeR, raiseS, fsD, tryS, handle, noX, wipeO, xfC, cOwn1, cOwn2, cOwn2r, cLenO, lenT, cInO, inT, cOwnE, DLO.eqT, DLO.neT, cListA, listA, putD, isi_str_non, isi_str_bl, isi_str_int, isi_str_str, isi_str_tup, isi_str_lst, isi_str_dic, isi_int_non, isi_int_bl, isi_int_int, isi_int_str, isi_int_tup, isi_int_lst, isi_int_dic, isi_bool_non, isi_bool_bl, isi_bool_int, isi_bool_str, isi_bool_tup, isi_bool_lst, isi_bool_dic, isi_Order_non, isi_Order_bl, isi_Order_int, isi_Order_str, isi_Order_tup, isi_Order_lst, isi_Order_dic, isi_Order_ord, truD, dLen, dInt, dLt, dLe, dGt, dGe, fI, atI_0, atI_1, atI_2, c_is_number]
theorem isnum_tup {s : List Dt} : f_is_number [.v (.tup s)] = .ret (.v (.bl false)) [some (.v (.tup s))] := by simp [runF, seqS, ifS, bindS, bindR, isBl, DL.c2, DL.c1, cD, cSlot, cVar, DL.ret, lift, der, deref, setS, setR, setF, setIxS, retS, retF, retV, nextS, exprS, Tr.fz, frz, cCall, aCons, callR, argTs, argT, slotsOk, posOf, backR, cCons, cTup, cLst, cTru, cNotB, cNotV, cOrB, cAndB, cAndV, cOrV, cNeg, cPart, cSl, appC, cFld, fldS, cMake, makeR, raiseS, fsD, tryS, handle, noX, wipeO, xfC, cOwn1, cOwn2, cOwn2r, cLenO, lenT, cInO, inT, cOwnE, DLO.eqT, DLO.neT, cListA, listA, putD, isi_str_non, isi_str_bl, isi_str_int, isi_str_str, isi_str_tup, isi_str_lst, isi_str_dic, isi_int_non, isi_int_bl, isi_int_int, isi_int_str, isi_int_tup, isi_int_lst, isi_int_dic, isi_bool_non, isi_bool_bl, isi_bool_int, isi_bool_str, isi_bool_tup, isi_bool_lst, isi_bool_dic, isi_Order_non, isi_Order_bl, isi_Order_int, isi_Order_str, isi_Order_tup, isi_Order_lst, isi_Order_dic, isi_Order_ord, truD, dLen, dInt, dLt, dLe, dGt, dGe, fI, atI_0, atI_1, atI_2, c_is_number]
theorem item_bad {L : List Nat} {d : Dt} (h : f_is_number [.v d] = .ret (.v (.bl false)) [some (.v d)]) : f_Order___getitem__ [.v (ord L), .v d] = .exc ("NoLetter", [("letter", d)]) [some (.v (ord L)), some (.v d)] := by
  simp [runF, seqS, ifS, bindS, bindR, isBl, DL.c2, DL.c1, cD, cSlot, cVar, DL.ret, lift, der, deref, setS, setR, setF, setIxS, retS, retF, retV, nextS, exprS, Tr.fz, frz, cCall, aCons, callR, argTs, argT, slotsOk, posOf, backR, cCons, cTup, cLst, cTru, cNotB, cNotV, cOrB, cAndB, cAndV, cOrV, cNeg, cPart, cSl, appC, cFld, fldS, cMake, makeR, raiseS, fsD, tryS, handle, noX, wipeO, xfC, cOwn1, cOwn2, cOwn2r, cLenO, lenT, cInO, inT, cOwnE, DLO.eqT, DLO.neT, cListA, listA, putD, isi_str_non, isi_str_bl, isi_str_int, isi_str_str, isi_str_tup, isi_str_lst, isi_str_dic, isi_int_non, isi_int_bl, isi_int_int, isi_int_str, isi_int_tup, isi_int_lst, isi_int_dic, isi_bool_non, isi_bool_bl, isi_bool_int, isi_bool_str, isi_bool_tup, isi_bool_lst, isi_bool_dic, isi_Order_non, isi_Order_bl, isi_Order_int, isi_Order_str, isi_Order_tup, isi_Order_lst, isi_Order_dic, isi_Order_ord, truD, dLen, dInt, dLt, dLe, dGt, dGe, fI, atI_0, atI_1, atI_2, c_Order___getitem__, h]
theorem item_neg {L : List Nat} {n : Int} (h : n < 0) : f_Order___getitem__ [.v (ord L), .v (.int n)] = .exc ("NoLetter", [("letter", .int n)]) [some (.v (ord L)), some (.v (.int n))] :=
  item_bad (by rw [isnum_int, decide_eq_false (by omega)])
theorem item_far {L : List Nat} {n : Int} (hl : L.length ≤ 100) (h : (L.length : Int) ≤ n) : f_Order___getitem__ [.v (ord L), .v (.int n)] = .exc ("NoLetter", [("letter", .int n)]) [some (.v (ord L)), some (.v (.int n))] := by
  have f : fits L.length = true := fits_s (by omega)
  have h0 : 0 ≤ n := by omega
  simp [runF, seqS, ifS, bindS, bindR, isBl, DL.c2, DL.c1, cD, cSlot, cVar, DL.ret, lift, der, deref, setS, setR, setF, setIxS, retS, retF, retV, nextS, exprS, Tr.fz, frz, cCall, aCons, callR, argTs, argT, slotsOk, posOf, backR, cCons, cTup, cLst, cTru, cNotB, cNotV, cOrB, cAndB, cAndV, cOrV, cNeg, cPart, cSl, appC, cFld, fldS, cMake, makeR, raiseS, fsD, tryS, handle, noX, wipeO, xfC, cOwn1, cOwn2, cOwn2r, cLenO, lenT, cInO, inT, cOwnE, DLO.eqT, DLO.neT, cListA, listA, putD, isi_str_non, isi_str_bl, isi_str_int, isi_str_str, isi_str_tup, isi_str_lst, isi_str_dic, isi_int_non, isi_int_bl, isi_int_int, isi_int_str, isi_int_tup, isi_int_lst, isi_int_dic, isi_bool_non, isi_bool_bl, isi_bool_int, isi_bool_str, isi_bool_tup, isi_bool_lst, isi_bool_dic, isi_Order_non, isi_Order_bl, isi_Order_int, isi_Order_str, isi_Order_tup, isi_Order_lst, isi_Order_dic, isi_Order_ord, truD, dLen, dInt, dLt, dLe, dGt, dGe, fI, atI_0, atI_1, atI_2, c_Order___getitem__, isnum_int, h0, fld_let, f, h]
theorem item_ok {L : List Nat} {k : Nat} (hl : L.length ≤ 100) (h : k < L.length) : f_Order___getitem__ [.v (ord L), .v (.int (k : Nat))] = .ret (.v (sg L[k])) [some (.v (ord L)), some (.v (.int (k : Nat)))] := by
  have f : fits L.length = true := fits_s (by omega)
  have h1 : ¬ (L.length : Int) ≤ (k : Int) := by omega
  simp [runF, seqS, ifS, bindS, bindR, isBl, DL.c2, DL.c1, cD, cSlot, cVar, DL.ret, lift, der, deref, setS, setR, setF, setIxS, retS, retF, retV, nextS, exprS, Tr.fz, frz, cCall, aCons, callR, argTs, argT, slotsOk, posOf, backR, cCons, cTup, cLst, cTru, cNotB, cNotV, cOrB, cAndB, cAndV, cOrV, cNeg, cPart, cSl, appC, cFld, fldS, cMake, makeR, raiseS, fsD, tryS, handle, noX, wipeO, xfC, cOwn1, cOwn2, cOwn2r, cLenO, lenT, cInO, inT, cOwnE, DLO.eqT, DLO.neT, cListA, listA, putD, isi_str_non, isi_str_bl, isi_str_int, isi_str_str, isi_str_tup, isi_str_lst, isi_str_dic, isi_int_non, isi_int_bl, isi_int_int, isi_int_str, isi_int_tup, isi_int_lst, isi_int_dic, isi_bool_non, isi_bool_bl, isi_bool_int, isi_bool_str, isi_bool_tup, isi_bool_lst, isi_bool_dic, isi_Order_non, isi_Order_bl, isi_Order_int, isi_Order_str, isi_Order_tup, isi_Order_lst, isi_Order_dic, isi_Order_ord, truD, dLen, dInt, dLt, dLe, dGt, dGe, fI, atI_0, atI_1, atI_2, c_Order___getitem__, isnum_int, fld_let, f, h1, dIx, atI_nat h]
abbrev noneS : List Nat := [110, 111, 110, 101]
abbrev badS : List Nat := [98, 97, 100]
theorem numbered_ok {L : List Nat} {k : Nat} (hl : L.length ≤ 100) (h : k < L.length) : f__law_numbered [.v (ord L), .v (.int (k : Nat))] = .ret (.v (sg L[k])) [some (.v (ord L)), some (.v (.int (k : Nat)))] := by
  simp [runF, seqS, ifS, bindS, bindR, isBl, DL.c2, DL.c1, cD, cSlot, cVar, DL.ret, lift, der, deref, setS, setR, setF, setIxS, retS, retF, retV, nextS, exprS, Tr.fz, frz, cCall, aCons, callR, argTs, argT, slotsOk, posOf, backR, cCons, cTup, cLst, cTru, cNotB, cNotV, cOrB, cAndB, cAndV, cOrV, cNeg, cPart, cSl, appC, cFld, fldS, cMake, makeR, raiseS, fsD, tryS, handle, noX, wipeO, xfC, cOwn1, cOwn2, cOwn2r, cLenO, lenT, cInO, inT, cOwnE, DLO.eqT, DLO.neT, cListA, listA, putD, isi_str_non, isi_str_bl, isi_str_int, isi_str_str, isi_str_tup, isi_str_lst, isi_str_dic, isi_int_non, isi_int_bl, isi_int_int, isi_int_str, isi_int_tup, isi_int_lst, isi_int_dic, isi_bool_non, isi_bool_bl, isi_bool_int, isi_bool_str, isi_bool_tup, isi_bool_lst, isi_bool_dic, isi_Order_non, isi_Order_bl, isi_Order_int, isi_Order_str, isi_Order_tup, isi_Order_lst, isi_Order_dic, isi_Order_ord, truD, dLen, dInt, dLt, dLe, dGt, dGe, fI, atI_0, atI_1, atI_2, c__law_numbered, isC_ord, item_ok hl h]
theorem numbered_bad {L : List Nat} {d : Dt} (h : f_Order___getitem__ [.v (ord L), .v d] = .exc ("NoLetter", [("letter", d)]) [some (.v (ord L)), some (.v d)]) : f__law_numbered [.v (ord L), .v d] = .ret (.v (.tup [.str noneS, d])) [some (.v (ord L)), some (.v d)] := by
  have f : fits 2 = true := fits_s (by omega)
  simp [runF, seqS, ifS, bindS, bindR, isBl, DL.c2, DL.c1, cD, cSlot, cVar, DL.ret, lift, der, deref, setS, setR, setF, setIxS, retS, retF, retV, nextS, exprS, Tr.fz, frz, cCall, aCons, callR, argTs, argT, slotsOk, posOf, backR, cCons, cTup, cLst, cTru, cNotB, cNotV, cOrB, cAndB, cAndV, cOrV, cNeg, cPart, cSl, appC, cFld, fldS, cMake, makeR, raiseS, fsD, tryS, handle, noX, wipeO, xfC, cOwn1, cOwn2, cOwn2r, cLenO, lenT, cInO, inT, cOwnE, DLO.eqT, DLO.neT, cListA, listA, putD, isi_str_non, isi_str_bl, isi_str_int, isi_str_str, isi_str_tup, isi_str_lst, isi_str_dic, isi_int_non, isi_int_bl, isi_int_int, isi_int_str, isi_int_tup, isi_int_lst, isi_int_dic, isi_bool_non, isi_bool_bl, isi_bool_int, isi_bool_str, isi_bool_tup, isi_bool_lst, isi_bool_dic, isi_Order_non, isi_Order_bl, isi_Order_int, isi_Order_str, isi_Order_tup, isi_Order_lst, isi_Order_dic, isi_Order_ord, truD, dLen, dInt, dLt, dLe, dGt, dGe, fI, atI_0, atI_1, atI_2, c__law_numbered, isC_ord, h, f]
theorem refused_bad {d : Dt} (h : f_are_letters [.v d] = .ret (.v (.bl false)) [some (.v d)]) : f__law_refused [.v d] = .ret (.v (.tup [.str badS, d])) [some (.v d)] := by
  have f : fits 2 = true := fits_s (by omega)
  simp [runF, seqS, ifS, bindS, bindR, isBl, DL.c2, DL.c1, cD, cSlot, cVar, DL.ret, lift, der, deref, setS, setR, setF, setIxS, retS, retF, retV, nextS, exprS, Tr.fz, frz, cCall, aCons, callR, argTs, argT, slotsOk, posOf, backR, cCons, cTup, cLst, cTru, cNotB, cNotV, cOrB, cAndB, cAndV, cOrV, cNeg, cPart, cSl, appC, cFld, fldS, cMake, makeR, raiseS, fsD, tryS, handle, noX, wipeO, xfC, cOwn1, cOwn2, cOwn2r, cLenO, lenT, cInO, inT, cOwnE, DLO.eqT, DLO.neT, cListA, listA, putD, isi_str_non, isi_str_bl, isi_str_int, isi_str_str, isi_str_tup, isi_str_lst, isi_str_dic, isi_int_non, isi_int_bl, isi_int_int, isi_int_str, isi_int_tup, isi_int_lst, isi_int_dic, isi_bool_non, isi_bool_bl, isi_bool_int, isi_bool_str, isi_bool_tup, isi_bool_lst, isi_bool_dic, isi_Order_non, isi_Order_bl, isi_Order_int, isi_Order_str, isi_Order_tup, isi_Order_lst, isi_Order_dic, isi_Order_ord, truD, dLen, dInt, dLt, dLe, dGt, dGe, fI, atI_0, atI_1, atI_2, c__law_refused, init_bad h, f]
theorem eqx_bl {b : Bool} : dEqX (.bl b) (.bl b) = some (.bl true) := by
  cases b <;> rfl
theorem told_ok {s : List Nat} {d : Dt} {b : Bool} (he : dEqX (.tup [.str s, d]) (.tup [.str s, d]) = some (.bl true)) (hb : dIsi bs_bool co_bool d = some (.bl b)) : f__law_is_told [.v (.tup [.str s, d]), .v (.tup [.str s, d])] = .ret (.v (.bl true)) [some (.v (.tup [.str s, d])), some (.v (.tup [.str s, d]))] := by
  simp [runF, seqS, ifS, bindS, bindR, isBl, DL.c2, DL.c1, cD, cSlot, cVar, DL.ret, lift, der, deref, setS, setR, setF, setIxS, retS, retF, retV, nextS, exprS, Tr.fz, frz, cCall, aCons, callR, argTs, argT, slotsOk, posOf, backR, cCons, cTup, cLst, cTru, cNotB, cNotV, cOrB, cAndB, cAndV, cOrV, cNeg, cPart, cSl, appC, cFld, fldS, cMake, makeR, raiseS, fsD, tryS, handle, noX, wipeO, xfC, cOwn1, cOwn2, cOwn2r, cLenO, lenT, cInO, inT, cOwnE, DLO.eqT, DLO.neT, cListA, listA, putD, isi_str_non, isi_str_bl, isi_str_int, isi_str_str, isi_str_tup, isi_str_lst, isi_str_dic, isi_int_non, isi_int_bl, isi_int_int, isi_int_str, isi_int_tup, isi_int_lst, isi_int_dic, isi_bool_non, isi_bool_bl, isi_bool_int, isi_bool_str, isi_bool_tup, isi_bool_lst, isi_bool_dic, isi_Order_non, isi_Order_bl, isi_Order_int, isi_Order_str, isi_Order_tup, isi_Order_lst, isi_Order_dic, isi_Order_ord, truD, dLen, dInt, dLt, dLe, dGt, dGe, fI, atI_0, atI_1, atI_2, c__law_is_told, he, hb, dIx, eqx_bl]
theorem eqx_py {s : List Nat} {d : Dt} {p : PyData} (hs : ∀ c ∈ s, c < 1000) (hp : toPy d = some p) (h1 : PyData.canLay0 p = true) (h2 : PyData.depth p ≤ 10) : dEqX (.tup [.str s, d]) (.tup [.str s, d]) = some (.bl true) := by
  have z := strOk_s hs
  have e : toPy (.tup [.str s, d]) = some (.tuple [.str (mkS s), p]) := by simp [toPy, toPyL, hp]
  have c : PyData.canLay0 (.tuple [.str (mkS s), p]) = true := by simp [PyData.canLay0, PyData.canLayAll0, z, h1]
  have k : okPy (.tup [.str s, d]) = true := by
    unfold okPy
    rw [e]
    show (PyData.canLay0 (.tuple [.str (mkS s), p]) && decide (PyData.depth (.tuple [.str (mkS s), p]) ≤ 64)) = true
    rw [c]
    have : PyData.depth (.tuple [.str (mkS s), p]) ≤ 64 := by
      simp only [PyData.depth, PyData.depthAll]
      omega
    simp [this]
  have q : eqvD (.tup [.str s, d]) (.tup [.str s, d]) = true := by
    unfold eqvD
    rw [e]
    exact SeqAt.eqv_refl _ c
  unfold dEqX
  rw [k, q]
  rfl
theorem eqx_dic {s : List Nat} (hs : ∀ c ∈ s, c < 1000) : dEqX (.tup [.str s, .dic 0 []]) (.tup [.str s, .dic 0 []]) = some (.bl true) := by
  have k : okPy (.tup [.str s, .dic 0 []]) = false := rfl
  have k2 := okPy_str hs
  unfold dEqX
  simp [k, k2, isE, eqvD_str]
theorem py_sgs {L : List Nat} (h : ∀ c ∈ L, c < 1000) : ∃ q, toPy (sgs L) = some (.list q) ∧ PyData.canLayAll0 q = true ∧ PyData.depthAll q ≤ 1 := by
  induction L with
  | nil => exact ⟨[], rfl, rfl, by simp [PyData.depthAll]⟩
  | cons c L ih =>
    obtain ⟨q, e, h1, h2⟩ := ih fun x hx => h x (List.mem_cons_of_mem _ hx)
    have e2 : toPyL (L.map fun c => sg c) = some q := by
      have e' := e
      simp only [toPy] at e'
      cases hq : toPyL (L.map fun c => sg c) with
      | none => rw [hq] at e'; cases e'
      | some z => rw [hq] at e'; cases e'; rfl
    have z := strOk_s (s := [c]) (by simpa using h c List.mem_cons_self)
    refine ⟨.str (mkS [c]) :: q, by simp [toPy, toPyL, e2], by simp [PyData.canLayAll0, PyData.canLay0, z, h1], ?_⟩
    simp only [PyData.depthAll, PyData.depth]
    omega
end Lw
end
section
set_option Elab.async false
set_option linter.all false
set_option maxRecDepth 100000
set_option maxHeartbeats 4000000
namespace Lw
open PySem PySem.Spec PyProof.Rows L2 DL DLO DG
abbrev lb1 : S := (setF 2 (cCall 1 [] f__law_pool (aCons (cD (DL.c2 dAdd (cD (frz (cCall 2 [] f__law_cell (aCons (cD (cVar 0)) (aCons (cD (cVar 1)) (DL.ret [])))))) (cSlot 1))) (DL.ret []))))
abbrev lb2 : S := (setF 3 (cCall 2 [0] f__law_mixed (aCons (cSlot 2) (aCons (cD (DL.ret (.str [97, 98, 99, 100, 101, 102, 103, 104, 105, 106, 107, 108, 109, 110, 111, 112, 113, 114, 115, 116, 117, 118, 119, 120, 121, 122]))) (DL.ret [])))))
abbrev lb3 : S := (setS 4 (DL.mt1 dJoin (DL.ret (.str [])) (cSl (cSlot 3) (DL.ret none) (cPart (DL.c2 dAdd (cD (DL.ret (.int 1))) (cD (frz (cCall 2 [0] f__law_take (aCons (cSlot 2) (aCons (cD (DL.ret (.int 5))) (DL.ret [])))))))))))
abbrev lb4 : S := (setF 5 (cMake "Order" 2 f_Order___init__ (cCons (cVar 4) (DL.ret []))))
abbrev lb5 : S := (ifS (cOrB (isBl (DL.c2 dNe (cD (cFld cs_letters "letters" (cSlot 5))) (cSlot 4))) (isBl (DL.c2 dNe (cD (cLenO "Order" f_Order___len__ (cD (cVar 5)))) (cD (DL.c1 dLen (cSlot 4)))))) (retS (DL.ret (.bl false))) nextS)
abbrev lb6 : S := (forS (cRng1 (cCons (DL.c1 dLen (cSlot 4)) (DL.ret []))) (gNm 6) (ifS (cOrB (isBl (DL.c2 dNe (cD (frz (cCall 2 [] f__law_numbered (aCons (cD (cVar 5)) (aCons (cD (cVar 6)) (DL.ret [])))))) (cD (DL.c2 dIx (cSlot 4) (cSlot 6))))) (isBl (cInO true "Order" f_Order___contains__ (cD (DL.c2 dIx (cSlot 4) (cSlot 6))) (cD (cVar 5))))) (retS (DL.ret (.bl false))) nextS))
abbrev lb7 : S := (forS (cIter (frz (cLst (cCons (DL.c1 dLen (cSlot 4)) (cCons (cNeg (DL.ret (.int 1))) (cCons (cNeg (DL.c1 dLen (cSlot 4))) (cCons (DL.c2 dPow (cD (DL.ret (.int 10))) (cD (DL.ret (.int 30)))) (cCons (DL.ret .non) (cCons (DL.ret (.str [48])) (cCons (DL.ret (.bl true)) (cCons (cTup (cCons (DL.ret (.int 0)) (DL.ret []))) (DL.ret [])))))))))))) (gNm 6) (ifS (cNotB (cTru (cD (frz (cCall 2 [] f__law_is_told (aCons (cD (frz (cCall 2 [] f__law_numbered (aCons (cD (cVar 5)) (aCons (cD (cVar 6)) (DL.ret [])))))) (aCons (cD (cTup (cCons (DL.ret (.str [110, 111, 110, 101])) (cCons (cVar 6) (DL.ret []))))) (DL.ret [])))))))) (retS (DL.ret (.bl false))) nextS))
abbrev lb8 : S := (ifS (cTru (cD (DL.c1 dAny (cD (frz (cLc [9] (cIter (frz (cLst (cCons (DL.c2 dIx (cSlot 3) (cD (DL.ret (.int 5)))) (cCons (DL.ret (.str [])) (cCons (DL.c2 dMul (cD (DL.c2 dIx (cSlot 4) (cD (DL.ret (.int 0))))) (cD (DL.ret (.int 2)))) (cCons (DL.ret .non) (cCons (DL.ret (.int 0)) (cCons (cTup (cCons (DL.c2 dIx (cSlot 4) (cD (DL.ret (.int 0)))) (DL.ret []))) (cCons (frz (cLst (cCons (DL.c2 dIx (cSlot 4) (cD (DL.ret (.int 0)))) (DL.ret [])))) (cCons (frz (cDicN 0)) (DL.ret [])))))))))))) (gNm 9) (DL.ret true) (cInO false "Order" f_Order___contains__ (cD (cVar 9)) (cD (cVar 5))))))))) (retS (DL.ret (.bl false))) nextS)
abbrev lb9 : S := (ifS (cAndB (isBl (DL.c2 dGt (cD (DL.c1 dLen (cSlot 4))) (cD (DL.ret (.int 1))))) (isBl (cInO false "Order" f_Order___contains__ (cD (cVar 4)) (cD (cVar 5))))) (retS (DL.ret (.bl false))) nextS)
abbrev lb10 : S := (setF 7 (cOwn1 "Order" f_Order___neg__ (cD (cVar 5))))
abbrev lb11 : S := (ifS (cOrB (isBl (DL.c2 dNe (cD (cFld cs_letters "letters" (cSlot 7))) (cD (DL.c1 dRev (cSlot 4))))) (cOrB (isBl (DL.c2 dNe (cD (cFld cs_letters "letters" (cSlot 5))) (cSlot 4))) (cNotB (isBl (bindR (cOwnE "Order" f_Order___eq__ (cD (frz (cOwn1 "Order" f_Order___neg__ (cD (cVar 7))))) (cD (cVar 5))) DLO.eqT))))) (retS (DL.ret (.bl false))) nextS)
abbrev lb12 : S := (setS 8 (DL.c2 dAdd (cD (frz (cLst (cCons (frz (cMake "Order" 2 f_Order___init__ (cCons (DL.c2 dAdd (cSlot 4) (cD (DL.c2 dIx (cSlot 3) (cD (DL.ret (.int 5)))))) (DL.ret [])))) (cCons (cVar 4) (cCons (frz (cListA (cSlot 4))) (cCons (DL.ret .non) (DL.ret [])))))))) (cD (DL.c2 dMul (cD (frz (cLst (cCons (cVar 7) (DL.ret []))))) (cD (DL.c1 dInt (cD (DL.c2 dGt (cD (DL.c1 dLen (cSlot 4))) (cD (DL.ret (.int 1)))))))))))
abbrev lb13 : S := (ifS (cOrB (cTru (cD (DL.c1 dAny (cD (frz (cLc [10] (cIter (cVar 8)) (gNm 10) (DL.ret true) (cOrV (bindR (cOwnE "Order" f_Order___eq__ (cD (cVar 5)) (cD (cVar 10))) DLO.eqT) (cNotV (bindR (cOwnE "Order" f_Order___eq__ (cD (cVar 5)) (cD (cVar 10))) DLO.neT))))))))) (isBl (bindR (cOwnE "Order" f_Order___eq__ (cD (cVar 5)) (cD (frz (cMake "Order" 2 f_Order___init__ (cCons (cVar 4) (DL.ret [])))))) DLO.neT))) (retS (DL.ret (.bl false))) nextS)
abbrev lb14 : S := (forS (cIter (frz (cCall 2 [0] f__law_spoilt (aCons (cSlot 2) (aCons (cD (cVar 4)) (DL.ret [])))))) (gNm 9) (ifS (cNotB (cTru (cD (frz (cCall 2 [] f__law_is_told (aCons (cD (frz (cCall 1 [] f__law_refused (aCons (cD (cVar 9)) (DL.ret []))))) (aCons (cD (cTup (cCons (DL.ret (.str [98, 97, 100])) (cCons (cVar 9) (DL.ret []))))) (DL.ret [])))))))) (retS (DL.ret (.bl false))) nextS))
abbrev lbB : S := (seqS lb1 (seqS lb2 (seqS lb3 (seqS lb4 (seqS lb5 (seqS lb6 (seqS lb7 (seqS lb8 (seqS lb9 (seqS lb10 (seqS lb11 (seqS lb12 (seqS lb13 lb14)))))))))))))
theorem lb_eq : c_law = (seqS (forS (cRng1 (cCons (DL.ret (.int 4)) (DL.ret []))) (gNm 1) lbB) (retS (DL.ret (.bl true)))) := rfl
section
variable {ns : List Int} {x1 x2 x3 x4 x5 x6 x7 x8 x9 x10 : Option Tr}
abbrev Rr (ns : List Int) (x1 x2 x3 x4 x5 x6 x7 x8 x9 x10 : Option Tr) : Rho := [some (.v (.scr ns)), x1, x2, x3, x4, x5, x6, x7, x8, x9, x10]
theorem T1 (k : Nat) : ∃ i j, Pk 0 i j 0 ∧ lb1 (Rr ns (some (.v (.int (k : Nat)))) x2 x3 x4 x5 x6 x7 x8 x9 x10) = .next (Rr ns (some (.v (.int (k : Nat)))) (some (.o (pl i j 0))) x3 x4 x5 x6 x7 x8 x9 x10) := by
  obtain ⟨z, ez⟩ := cell_ok ns k
  obtain ⟨i, j, P, ep⟩ := pool_ok (z + k)
  refine ⟨i, j, P, ?_⟩
  simp [runF, seqS, ifS, bindS, bindR, isBl, DL.c2, DL.c1, cD, cSlot, cVar, DL.ret, lift, der, deref, setS, setR, setF, setIxS, retS, retF, retV, nextS, exprS, Tr.fz, frz, cCall, aCons, callR, argTs, argT, slotsOk, posOf, backR, cCons, cTup, cLst, cTru, cNotB, cNotV, cOrB, cAndB, cAndV, cOrV, cNeg, cPart, cSl, appC, cFld, fldS, cMake, makeR, raiseS, fsD, tryS, handle, noX, wipeO, xfC, cOwn1, cOwn2, cOwn2r, cLenO, lenT, cInO, inT, cOwnE, DLO.eqT, DLO.neT, cListA, listA, putD, isi_str_non, isi_str_bl, isi_str_int, isi_str_str, isi_str_tup, isi_str_lst, isi_str_dic, isi_int_non, isi_int_bl, isi_int_int, isi_int_str, isi_int_tup, isi_int_lst, isi_int_dic, isi_bool_non, isi_bool_bl, isi_bool_int, isi_bool_str, isi_bool_tup, isi_bool_lst, isi_bool_dic, isi_Order_non, isi_Order_bl, isi_Order_int, isi_Order_str, isi_Order_tup, isi_Order_lst, isi_Order_dic, isi_Order_ord, truD, dLen, dInt, dLt, dLe, dGt, dGe, fI, atI_0, atI_1, atI_2, lb1, ez, dAdd, ep]
theorem T2 {i j c : Int} (P : Pk 0 i j c) : ∃ (S : List Nat) (i' c' : Int), S.Perm alph ∧ Pk 26 i' j c' ∧ lb2 (Rr ns x1 (some (.o (pl i j c))) x3 x4 x5 x6 x7 x8 x9 x10) = .next (Rr ns x1 (some (.o (pl i' j c'))) (some (.o (sgs S))) x4 x5 x6 x7 x8 x9 x10) := by
  obtain ⟨S, i', c', hS, P', e⟩ := mixed_ok (A := alph) (t := 0) (by decide) P (by decide)
  have l : alph.length = 26 := rfl
  rw [l] at P'
  refine ⟨S, i', c', hS, P', ?_⟩
  simp [runF, seqS, ifS, bindS, bindR, isBl, DL.c2, DL.c1, cD, cSlot, cVar, DL.ret, lift, der, deref, setS, setR, setF, setIxS, retS, retF, retV, nextS, exprS, Tr.fz, frz, cCall, aCons, callR, argTs, argT, slotsOk, posOf, backR, cCons, cTup, cLst, cTru, cNotB, cNotV, cOrB, cAndB, cAndV, cOrV, cNeg, cPart, cSl, appC, cFld, fldS, cMake, makeR, raiseS, fsD, tryS, handle, noX, wipeO, xfC, cOwn1, cOwn2, cOwn2r, cLenO, lenT, cInO, inT, cOwnE, DLO.eqT, DLO.neT, cListA, listA, putD, isi_str_non, isi_str_bl, isi_str_int, isi_str_str, isi_str_tup, isi_str_lst, isi_str_dic, isi_int_non, isi_int_bl, isi_int_int, isi_int_str, isi_int_tup, isi_int_lst, isi_int_dic, isi_bool_non, isi_bool_bl, isi_bool_int, isi_bool_str, isi_bool_tup, isi_bool_lst, isi_bool_dic, isi_Order_non, isi_Order_bl, isi_Order_int, isi_Order_str, isi_Order_tup, isi_Order_lst, isi_Order_dic, isi_Order_ord, truD, dLen, dInt, dLt, dLe, dGt, dGe, fI, atI_0, atI_1, atI_2, lb2, e]
theorem cut_take1 {α : Type} {xs : List α} {r : Nat} : DL.cutD xs none (some (1 + (r : Int))) = xs.take (1 + r) := by
  have := cut_take (xs := xs) (r := 1 + r)
  rwa [Int.natCast_add] at this
theorem T3 {i j c : Int} {S : List Nat} (P : Pk 26 i j c) (hS : S.length = 26) : ∃ (r : Nat) (i' c' : Int), r < 5 ∧ Pk 27 i' j c' ∧ lb3 (Rr ns x1 (some (.o (pl i j c))) (some (.o (sgs S))) x4 x5 x6 x7 x8 x9 x10) = .next (Rr ns x1 (some (.o (pl i' j c'))) (some (.o (sgs S))) (some (.v (.str (S.take (1 + r))))) x5 x6 x7 x8 x9 x10) := by
  obtain ⟨r, i', c', hr, P', e⟩ := take_n (m := 5) (by omega) P (by omega) (by omega)
  have e2 : f__law_take [.o (pl i j c), .v (.int 5)] = .ret (.v (.int (r : Nat))) [some (.o (pl i' j c')), some (.v (.int 5))] := e
  have dj := dJoin_sg (S.take (1 + r)) (by simp; omega)
  rw [List.map_take] at dj
  refine ⟨r, i', c', hr, P', ?_⟩
  simp [runF, seqS, ifS, bindS, bindR, isBl, DL.c2, DL.c1, cD, cSlot, cVar, DL.ret, lift, der, deref, setS, setR, setF, setIxS, retS, retF, retV, nextS, exprS, Tr.fz, frz, cCall, aCons, callR, argTs, argT, slotsOk, posOf, backR, cCons, cTup, cLst, cTru, cNotB, cNotV, cOrB, cAndB, cAndV, cOrV, cNeg, cPart, cSl, appC, cFld, fldS, cMake, makeR, raiseS, fsD, tryS, handle, noX, wipeO, xfC, cOwn1, cOwn2, cOwn2r, cLenO, lenT, cInO, inT, cOwnE, DLO.eqT, DLO.neT, cListA, listA, putD, isi_str_non, isi_str_bl, isi_str_int, isi_str_str, isi_str_tup, isi_str_lst, isi_str_dic, isi_int_non, isi_int_bl, isi_int_int, isi_int_str, isi_int_tup, isi_int_lst, isi_int_dic, isi_bool_non, isi_bool_bl, isi_bool_int, isi_bool_str, isi_bool_tup, isi_bool_lst, isi_bool_dic, isi_Order_non, isi_Order_bl, isi_Order_int, isi_Order_str, isi_Order_tup, isi_Order_lst, isi_Order_dic, isi_Order_ord, truD, dLen, dInt, dLt, dLe, dGt, dGe, fI, atI_0, atI_1, atI_2, lb3, DL.mt1, e2, dSl, cut_take1, dAdd, dj]
theorem T4 {L : List Nat} (g : Good1 L) : lb4 (Rr ns x1 x2 x3 (some (.v (.str L))) x5 x6 x7 x8 x9 x10) = .next (Rr ns x1 x2 x3 (some (.v (.str L))) (some (.o (ord L))) x6 x7 x8 x9 x10) := by
  have e := order_ok g.n0 g.nd g.al (by have := g.le; omega)
  simp [runF, seqS, ifS, bindS, bindR, isBl, DL.c2, DL.c1, cD, cSlot, cVar, DL.ret, lift, der, deref, setS, setR, setF, setIxS, retS, retF, retV, nextS, exprS, Tr.fz, frz, cCall, aCons, callR, argTs, argT, slotsOk, posOf, backR, cCons, cTup, cLst, cTru, cNotB, cNotV, cOrB, cAndB, cAndV, cOrV, cNeg, cPart, cSl, appC, cFld, fldS, cMake, makeR, raiseS, fsD, tryS, handle, noX, wipeO, xfC, cOwn1, cOwn2, cOwn2r, cLenO, lenT, cInO, inT, cOwnE, DLO.eqT, DLO.neT, cListA, listA, putD, isi_str_non, isi_str_bl, isi_str_int, isi_str_str, isi_str_tup, isi_str_lst, isi_str_dic, isi_int_non, isi_int_bl, isi_int_int, isi_int_str, isi_int_tup, isi_int_lst, isi_int_dic, isi_bool_non, isi_bool_bl, isi_bool_int, isi_bool_str, isi_bool_tup, isi_bool_lst, isi_bool_dic, isi_Order_non, isi_Order_bl, isi_Order_int, isi_Order_str, isi_Order_tup, isi_Order_lst, isi_Order_dic, isi_Order_ord, truD, dLen, dInt, dLt, dLe, dGt, dGe, fI, atI_0, atI_1, atI_2, lb4, e]
theorem ne_int {i : Int} : dNe (.int i) (.int i) = some (.bl false) := by
  simp [dNe, okPy, toPy, SeqAt.shaped, PyData.canLay0, PyData.depth, eqvD, PyData.eqv]
theorem lk_of {n : Nat} (h : n ≤ 1000) : lenOk (n : Int) = true := by
  unfold lenOk
  rw [decide_eq_true (by omega), decide_eq_true (by omega)]
  rfl
theorem T5 {L : List Nat} (g : Good1 L) : lb5 (Rr ns x1 x2 x3 (some (.v (.str L))) (some (.o (ord L))) x6 x7 x8 x9 x10) = .next (Rr ns x1 x2 x3 (some (.v (.str L))) (some (.v (ord L))) x6 x7 x8 x9 x10) := by
  have hl := g.le
  have f : fits L.length = true := fits_s (by omega)
  simp [runF, seqS, ifS, bindS, bindR, isBl, DL.c2, DL.c1, cD, cSlot, cVar, DL.ret, lift, der, deref, setS, setR, setF, setIxS, retS, retF, retV, nextS, exprS, Tr.fz, frz, cCall, aCons, callR, argTs, argT, slotsOk, posOf, backR, cCons, cTup, cLst, cTru, cNotB, cNotV, cOrB, cAndB, cAndV, cOrV, cNeg, cPart, cSl, appC, cFld, fldS, cMake, makeR, raiseS, fsD, tryS, handle, noX, wipeO, xfC, cOwn1, cOwn2, cOwn2r, cLenO, lenT, cInO, inT, cOwnE, DLO.eqT, DLO.neT, cListA, listA, putD, isi_str_non, isi_str_bl, isi_str_int, isi_str_str, isi_str_tup, isi_str_lst, isi_str_dic, isi_int_non, isi_int_bl, isi_int_int, isi_int_str, isi_int_tup, isi_int_lst, isi_int_dic, isi_bool_non, isi_bool_bl, isi_bool_int, isi_bool_str, isi_bool_tup, isi_bool_lst, isi_bool_dic, isi_Order_non, isi_Order_bl, isi_Order_int, isi_Order_str, isi_Order_tup, isi_Order_lst, isi_Order_dic, isi_Order_ord, truD, dLen, dInt, dLt, dLe, dGt, dGe, fI, atI_0, atI_1, atI_2, lb5, fld_let, ne_same g.lt, isC_ord, len_ok (L := L) (by omega), f, ne_int, lk_of (n := L.length) (by omega)]
theorem loop_each {g : G} {body : S} (R : Option Tr → Rho) : ∀ (ds : List Dt) (x : Option Tr), (∀ d ∈ ds, (∀ x, g d (R x) = some (R (some (.v d)))) ∧ body (R (some (.v d))) = .next (R (some (.v d)))) → ∃ x', loopD g body ds (R x) = .next (R x')
  | [], x, _ => ⟨x, rfl⟩
  | d :: ds, x, h => by
    obtain ⟨h1, h2⟩ := h d List.mem_cons_self
    obtain ⟨x', e⟩ := loop_each R ds (some (.v d)) fun z hz => h z (List.mem_cons_of_mem _ hz)
    exact ⟨x', (loop_cons (h1 x) h2).trans e⟩
theorem T6 {L : List Nat} (g : Good1 L) : ∃ y6, lb6 (Rr ns x1 x2 x3 (some (.v (.str L))) (some (.v (ord L))) x6 x7 x8 x9 x10) = .next (Rr ns x1 x2 x3 (some (.v (.str L))) (some (.v (ord L))) y6 x7 x8 x9 x10) := by
  have hl := g.le
  have f : fits L.length = true := fits_s (by omega)
  have s3 : cRng1 (cCons (DL.c1 dLen (cSlot 4)) (DL.ret [])) (Rr ns x1 x2 x3 (some (.v (.str L))) (some (.v (ord L))) x6 x7 x8 x9 x10) = .ok (rangeL 0 L.length) (Rr ns x1 x2 x3 (some (.v (.str L))) (some (.v (ord L))) x6 x7 x8 x9 x10) := by
    refine rng_of (n := L.length) (by omega) ?_
    simp [runF, seqS, ifS, bindS, bindR, isBl, DL.c2, DL.c1, cD, cSlot, cVar, DL.ret, lift, der, deref, setS, setR, setF, setIxS, retS, retF, retV, nextS, exprS, Tr.fz, frz, cCall, aCons, callR, argTs, argT, slotsOk, posOf, backR, cCons, cTup, cLst, cTru, cNotB, cNotV, cOrB, cAndB, cAndV, cOrV, cNeg, cPart, cSl, appC, cFld, fldS, cMake, makeR, raiseS, fsD, tryS, handle, noX, wipeO, xfC, cOwn1, cOwn2, cOwn2r, cLenO, lenT, cInO, inT, cOwnE, DLO.eqT, DLO.neT, cListA, listA, putD, isi_str_non, isi_str_bl, isi_str_int, isi_str_str, isi_str_tup, isi_str_lst, isi_str_dic, isi_int_non, isi_int_bl, isi_int_int, isi_int_str, isi_int_tup, isi_int_lst, isi_int_dic, isi_bool_non, isi_bool_bl, isi_bool_int, isi_bool_str, isi_bool_tup, isi_bool_lst, isi_bool_dic, isi_Order_non, isi_Order_bl, isi_Order_int, isi_Order_str, isi_Order_tup, isi_Order_lst, isi_Order_dic, isi_Order_ord, truD, dLen, dInt, dLt, dLe, dGt, dGe, fI, atI_0, atI_1, atI_2, f]
  obtain ⟨y, e⟩ := loop_each (g := gNm 6) (body := (ifS (cOrB (isBl (DL.c2 dNe (cD (frz (cCall 2 [] f__law_numbered (aCons (cD (cVar 5)) (aCons (cD (cVar 6)) (DL.ret [])))))) (cD (DL.c2 dIx (cSlot 4) (cSlot 6))))) (isBl (cInO true "Order" f_Order___contains__ (cD (DL.c2 dIx (cSlot 4) (cSlot 6))) (cD (cVar 5))))) (retS (DL.ret (.bl false))) nextS)) (fun y => Rr ns x1 x2 x3 (some (.v (.str L))) (some (.v (ord L))) y x7 x8 x9 x10) (rangeL 0 L.length) x6 fun d hd => by
    rw [rangeL_map] at hd
    obtain ⟨z, hz, rfl⟩ := List.mem_map.mp hd
    obtain ⟨k, hk, rfl⟩ := List.mem_map.mp hz
    have hk : k < L.length := List.mem_range.mp hk
    refine ⟨fun x => rfl, ?_⟩
    have n1 := numbered_ok (L := L) (k := k) (by omega) hk
    have i1 : atI L (k : Int) = some L[k] := atI_nat hk
    have s1 := ne_same (s := [L[k]]) (by simpa using g.lt _ (List.getElem_mem hk))
    have c1 := contains_str (L := L) (s := [L[k]])
    have c2 : inO L (.str [L[k]]) = true := decide_eq_true (List.getElem_mem hk)
    rw [c2] at c1
    simp [runF, seqS, ifS, bindS, bindR, isBl, DL.c2, DL.c1, cD, cSlot, cVar, DL.ret, lift, der, deref, setS, setR, setF, setIxS, retS, retF, retV, nextS, exprS, Tr.fz, frz, cCall, aCons, callR, argTs, argT, slotsOk, posOf, backR, cCons, cTup, cLst, cTru, cNotB, cNotV, cOrB, cAndB, cAndV, cOrV, cNeg, cPart, cSl, appC, cFld, fldS, cMake, makeR, raiseS, fsD, tryS, handle, noX, wipeO, xfC, cOwn1, cOwn2, cOwn2r, cLenO, lenT, cInO, inT, cOwnE, DLO.eqT, DLO.neT, cListA, listA, putD, isi_str_non, isi_str_bl, isi_str_int, isi_str_str, isi_str_tup, isi_str_lst, isi_str_dic, isi_int_non, isi_int_bl, isi_int_int, isi_int_str, isi_int_tup, isi_int_lst, isi_int_dic, isi_bool_non, isi_bool_bl, isi_bool_int, isi_bool_str, isi_bool_tup, isi_bool_lst, isi_bool_dic, isi_Order_non, isi_Order_bl, isi_Order_int, isi_Order_str, isi_Order_tup, isi_Order_lst, isi_Order_dic, isi_Order_ord, truD, dLen, dInt, dLt, dLe, dGt, dGe, fI, atI_0, atI_1, atI_2, n1, dIx, f, i1, s1, isC_ord, c1]
  exact ⟨y, (forS_ok s3).trans e⟩
end
end Lw
end
section
set_option Elab.async false
set_option linter.all false
set_option maxRecDepth 100000
set_option maxHeartbeats 4000000
namespace Lw
open PySem PySem.Spec PyProof.Rows L2 DL DLO DG
section
variable {ns : List Int} {x1 x2 x3 x4 x5 x6 x7 x8 x9 x10 : Option Tr}
structure Num (L : List Nat) (d : Dt) : Prop where
  it : f_Order___getitem__ [.v (ord L), .v d] = .exc ("NoLetter", [("letter", d)]) [some (.v (ord L)), some (.v d)]
  eq : dEqX (.tup [.str noneS, d]) (.tup [.str noneS, d]) = some (.bl true)
  bl : ∃ b, dIsi bs_bool co_bool d = some (.bl b)
theorem noneS_lt : ∀ c ∈ noneS, c < 1000 := by decide
theorem badS_lt : ∀ c ∈ badS, c < 1000 := by decide
theorem num_far {L : List Nat} {n : Int} (hl : L.length ≤ 100) (h : (L.length : Int) ≤ n) : Num L (.int n) := ⟨item_far hl h, eqx_py noneS_lt rfl rfl (by simp [PyData.depth]), ⟨_, rfl⟩⟩
theorem num_neg {L : List Nat} {n : Int} (h : n < 0) : Num L (.int n) := ⟨item_neg h, eqx_py noneS_lt rfl rfl (by simp [PyData.depth]), ⟨_, rfl⟩⟩
def nums (L : List Nat) : List Dt := [.int (L.length : Nat), .int (-1), .int (-(L.length : Nat)), .int (10 ^ 30), .non, .str [48], .bl true, .tup [.int 0]]
theorem nums_ok {L : List Nat} (g : Good1 L) : ∀ d ∈ nums L, Num L d := by
  have hl := g.le
  have h0 : 0 < L.length := List.length_pos_iff.mpr g.n0
  intro d hd
  simp only [nums, List.mem_cons, List.not_mem_nil, or_false] at hd
  rcases hd with h | h | h | h | h | h | h | h <;> subst h
  · exact num_far (by omega) (by omega)
  · exact num_neg (by omega)
  · exact num_neg (by omega)
  · exact num_far (by omega) (by omega)
  · exact ⟨item_bad isnum_non, eqx_py noneS_lt rfl rfl (by simp [PyData.depth]), ⟨_, rfl⟩⟩
  · exact ⟨item_bad isnum_str, eqx_py noneS_lt rfl (by simpa [PyData.canLay0] using strOk_s (s := [48]) (by decide)) (by simp [PyData.depth]), ⟨_, rfl⟩⟩
  · exact ⟨item_bad isnum_bl, eqx_py noneS_lt rfl rfl (by simp [PyData.depth]), ⟨_, rfl⟩⟩
  · exact ⟨item_bad isnum_tup, eqx_py noneS_lt rfl rfl (by simp [PyData.depth, PyData.depthAll]), ⟨_, rfl⟩⟩
theorem T7 {L : List Nat} (g : Good1 L) : ∃ y6, lb7 (Rr ns x1 x2 x3 (some (.v (.str L))) (some (.v (ord L))) x6 x7 x8 x9 x10) = .next (Rr ns x1 x2 x3 (some (.v (.str L))) (some (.v (ord L))) y6 x7 x8 x9 x10) := by
  have hl := g.le
  have f : fits L.length = true := fits_s (by omega)
  have f1 : fits 1 = true := fits_s (by omega)
  have f2 : fits 2 = true := fits_s (by omega)
  have f8 : fits 8 = true := fits_s (by omega)
  obtain ⟨y, e⟩ := loop_each (g := gNm 6) (body := (ifS (cNotB (cTru (cD (frz (cCall 2 [] f__law_is_told (aCons (cD (frz (cCall 2 [] f__law_numbered (aCons (cD (cVar 5)) (aCons (cD (cVar 6)) (DL.ret [])))))) (aCons (cD (cTup (cCons (DL.ret (.str [110, 111, 110, 101])) (cCons (cVar 6) (DL.ret []))))) (DL.ret [])))))))) (retS (DL.ret (.bl false))) nextS)) (fun y => Rr ns x1 x2 x3 (some (.v (.str L))) (some (.v (ord L))) y x7 x8 x9 x10) (nums L) x6 fun d hd => by
    refine ⟨fun x => rfl, ?_⟩
    obtain ⟨n1, n2, b, n3⟩ := nums_ok g d hd
    simp [runF, seqS, ifS, bindS, bindR, isBl, DL.c2, DL.c1, cD, cSlot, cVar, DL.ret, lift, der, deref, setS, setR, setF, setIxS, retS, retF, retV, nextS, exprS, Tr.fz, frz, cCall, aCons, callR, argTs, argT, slotsOk, posOf, backR, cCons, cTup, cLst, cTru, cNotB, cNotV, cOrB, cAndB, cAndV, cOrV, cNeg, cPart, cSl, appC, cFld, fldS, cMake, makeR, raiseS, fsD, tryS, handle, noX, wipeO, xfC, cOwn1, cOwn2, cOwn2r, cLenO, lenT, cInO, inT, cOwnE, DLO.eqT, DLO.neT, cListA, listA, putD, isi_str_non, isi_str_bl, isi_str_int, isi_str_str, isi_str_tup, isi_str_lst, isi_str_dic, isi_int_non, isi_int_bl, isi_int_int, isi_int_str, isi_int_tup, isi_int_lst, isi_int_dic, isi_bool_non, isi_bool_bl, isi_bool_int, isi_bool_str, isi_bool_tup, isi_bool_lst, isi_bool_dic, isi_Order_non, isi_Order_bl, isi_Order_int, isi_Order_str, isi_Order_tup, isi_Order_lst, isi_Order_dic, isi_Order_ord, truD, dLen, dInt, dLt, dLe, dGt, dGe, fI, atI_0, atI_1, atI_2, numbered_bad n1, f2, told_ok n2 n3]
  have s3 : (cIter (frz (cLst (cCons (DL.c1 dLen (cSlot 4)) (cCons (cNeg (DL.ret (.int 1))) (cCons (cNeg (DL.c1 dLen (cSlot 4))) (cCons (DL.c2 dPow (cD (DL.ret (.int 10))) (cD (DL.ret (.int 30)))) (cCons (DL.ret .non) (cCons (DL.ret (.str [48])) (cCons (DL.ret (.bl true)) (cCons (cTup (cCons (DL.ret (.int 0)) (DL.ret []))) (DL.ret [])))))))))))) (Rr ns x1 x2 x3 (some (.v (.str L))) (some (.v (ord L))) x6 x7 x8 x9 x10) = .ok (nums L) (Rr ns x1 x2 x3 (some (.v (.str L))) (some (.v (ord L))) x6 x7 x8 x9 x10) := by
    simp [runF, seqS, ifS, bindS, bindR, isBl, DL.c2, DL.c1, cD, cSlot, cVar, DL.ret, lift, der, deref, setS, setR, setF, setIxS, retS, retF, retV, nextS, exprS, Tr.fz, frz, cCall, aCons, callR, argTs, argT, slotsOk, posOf, backR, cCons, cTup, cLst, cTru, cNotB, cNotV, cOrB, cAndB, cAndV, cOrV, cNeg, cPart, cSl, appC, cFld, fldS, cMake, makeR, raiseS, fsD, tryS, handle, noX, wipeO, xfC, cOwn1, cOwn2, cOwn2r, cLenO, lenT, cInO, inT, cOwnE, DLO.eqT, DLO.neT, cListA, listA, putD, isi_str_non, isi_str_bl, isi_str_int, isi_str_str, isi_str_tup, isi_str_lst, isi_str_dic, isi_int_non, isi_int_bl, isi_int_int, isi_int_str, isi_int_tup, isi_int_lst, isi_int_dic, isi_bool_non, isi_bool_bl, isi_bool_int, isi_bool_str, isi_bool_tup, isi_bool_lst, isi_bool_dic, isi_Order_non, isi_Order_bl, isi_Order_int, isi_Order_str, isi_Order_tup, isi_Order_lst, isi_Order_dic, isi_Order_ord, truD, dLen, dInt, dLt, dLe, dGt, dGe, fI, atI_0, atI_1, atI_2, f, f1, f8, dPow, cIter, itemsD, nums]
  exact ⟨y, (forS_ok s3).trans e⟩
theorem cLc_map2 {k : Nat} {ci : C (List Dt)} {ce : C Dt} {ρ0 ρ ρw ρ' : Rho} {f : Dt → Dt} {ds : List Dt} (hi : ci ρ0 = .ok ds ρ) (hw : ρ.set k none = ρw) (hb : backV ρ ρw [k] = ρ') (h : ∀ d ∈ ds, ce (setR ρw k (.v d)) = .ok (f d) (setR ρw k (.v d))) (hz : ds.length ≤ 1000) : cLc [k] ci (gNm k) (DL.ret true) ce ρ0 = .ok (.o (.lst (ds.map f))) ρ' := by
  have hk : ρw.set k none = ρw := by rw [← hw, List.set_set]
  unfold cLc
  rw [bind_ok hi]
  rw [show wipeR ρ [k] = ρw from hw, lc_map hk ds [] h (by simp; omega)]
  simp only [List.nil_append, hb]
/-- what a name of a block is behind it -/
def kept (x : Option Tr) : Option Tr := match x with
  | some (.v d) => some (.v d)
  | _ => none
def strs8 (L : List Nat) (a : Nat) : List Dt := [sg a, .str [], .str (repS 2 [L.headD 0]), .non, .int 0, .tup [sg (L.headD 0)], .lst [sg (L.headD 0)], .dic 0 []]
theorem not_in8 {L : List Nat} {a : Nat} (ha : a ∉ L) : ∀ d ∈ strs8 L a, f_Order___contains__ [.v (ord L), .v d] = .ret (.v (.bl false)) [some (.v (ord L)), some (.v d)] := by
  intro d hd
  simp only [strs8, List.mem_cons, List.not_mem_nil, or_false] at hd
  rcases hd with h | h | h | h | h | h | h | h <;> subst h
  · rw [contains_str, show inO L (sg a) = false from decide_eq_false ha]
  · exact contains_str
  · exact contains_str
  all_goals exact contains_no rfl
theorem T8 {L S : List Nat} {a : Nat} (g : Good1 L) (h5 : atI (S.map fun c => sg c) 5 = some (sg a)) (ha : a ∉ L) : lb8 (Rr ns x1 x2 (some (.o (sgs S))) (some (.v (.str L))) (some (.v (ord L))) x6 x7 x8 x9 x10) = .next (Rr ns x1 x2 (some (.o (sgs S))) (some (.v (.str L))) (some (.v (ord L))) x6 x7 x8 (kept x9) x10) := by
  have hl := g.le
  have f : fits L.length = true := fits_s (by omega)
  have f1 : fits 1 = true := fits_s (by omega)
  have f2 : fits 2 = true := fits_s (by omega)
  have f8 : fits 8 = true := fits_s (by omega)
  obtain ⟨b, r, rfl⟩ : ∃ b r, L = b :: r := by
    cases L with
    | nil => exact absurd rfl g.n0
    | cons b r => exact ⟨b, r, rfl⟩
  have f9 : fits (r.length + 1) = true := f
  have m2 : dMul (sg b) (.int 2) = some (.str (repS 2 [b])) := mul_n (t := 2) (l := [b]) (by omega) (by simp)
  have hi : (cIter (frz (cLst (cCons (DL.c2 dIx (cSlot 3) (cD (DL.ret (.int 5)))) (cCons (DL.ret (.str [])) (cCons (DL.c2 dMul (cD (DL.c2 dIx (cSlot 4) (cD (DL.ret (.int 0))))) (cD (DL.ret (.int 2)))) (cCons (DL.ret .non) (cCons (DL.ret (.int 0)) (cCons (cTup (cCons (DL.c2 dIx (cSlot 4) (cD (DL.ret (.int 0)))) (DL.ret []))) (cCons (frz (cLst (cCons (DL.c2 dIx (cSlot 4) (cD (DL.ret (.int 0)))) (DL.ret [])))) (cCons (frz (cDicN 0)) (DL.ret [])))))))))))) (Rr ns x1 x2 (some (.o (sgs S))) (some (.v (.str (b :: r)))) (some (.v (ord (b :: r)))) x6 x7 x8 x9 x10) = .ok (strs8 (b :: r) a) (Rr ns x1 x2 (some (.o (sgs S))) (some (.v (.str (b :: r)))) (some (.v (ord (b :: r)))) x6 x7 x8 x9 x10) := by
    simp [runF, seqS, ifS, bindS, bindR, isBl, DL.c2, DL.c1, cD, cSlot, cVar, DL.ret, lift, der, deref, setS, setR, setF, setIxS, retS, retF, retV, nextS, exprS, Tr.fz, frz, cCall, aCons, callR, argTs, argT, slotsOk, posOf, backR, cCons, cTup, cLst, cTru, cNotB, cNotV, cOrB, cAndB, cAndV, cOrV, cNeg, cPart, cSl, appC, cFld, fldS, cMake, makeR, raiseS, fsD, tryS, handle, noX, wipeO, xfC, cOwn1, cOwn2, cOwn2r, cLenO, lenT, cInO, inT, cOwnE, DLO.eqT, DLO.neT, cListA, listA, putD, isi_str_non, isi_str_bl, isi_str_int, isi_str_str, isi_str_tup, isi_str_lst, isi_str_dic, isi_int_non, isi_int_bl, isi_int_int, isi_int_str, isi_int_tup, isi_int_lst, isi_int_dic, isi_bool_non, isi_bool_bl, isi_bool_int, isi_bool_str, isi_bool_tup, isi_bool_lst, isi_bool_dic, isi_Order_non, isi_Order_bl, isi_Order_int, isi_Order_str, isi_Order_tup, isi_Order_lst, isi_Order_dic, isi_Order_ord, truD, dLen, dInt, dLt, dLe, dGt, dGe, fI, atI_0, atI_1, atI_2, dIx, h5, f9, m2, f1, f8, cIter, itemsD, cDicN, strs8]
  have lc := cLc_map2 (k := 9) (ce := cInO false "Order" f_Order___contains__ (cD (cVar 9)) (cD (cVar 5))) (f := fun _ => .bl false) hi rfl rfl (fun d hd => by
    have c := not_in8 ha d hd
    simp [runF, seqS, ifS, bindS, bindR, isBl, DL.c2, DL.c1, cD, cSlot, cVar, DL.ret, lift, der, deref, setS, setR, setF, setIxS, retS, retF, retV, nextS, exprS, Tr.fz, frz, cCall, aCons, callR, argTs, argT, slotsOk, posOf, backR, cCons, cTup, cLst, cTru, cNotB, cNotV, cOrB, cAndB, cAndV, cOrV, cNeg, cPart, cSl, appC, cFld, fldS, cMake, makeR, raiseS, fsD, tryS, handle, noX, wipeO, xfC, cOwn1, cOwn2, cOwn2r, cLenO, lenT, cInO, inT, cOwnE, DLO.eqT, DLO.neT, cListA, listA, putD, isi_str_non, isi_str_bl, isi_str_int, isi_str_str, isi_str_tup, isi_str_lst, isi_str_dic, isi_int_non, isi_int_bl, isi_int_int, isi_int_str, isi_int_tup, isi_int_lst, isi_int_dic, isi_bool_non, isi_bool_bl, isi_bool_int, isi_bool_str, isi_bool_tup, isi_bool_lst, isi_bool_dic, isi_Order_non, isi_Order_bl, isi_Order_int, isi_Order_str, isi_Order_tup, isi_Order_lst, isi_Order_dic, isi_Order_ord, truD, dLen, dInt, dLt, dLe, dGt, dGe, fI, atI_0, atI_1, atI_2, isC_ord, c]) (by simp [strs8])
  have an : dAny (.lst ((strs8 (b :: r) a).map fun _ => .bl false)) = some (.bl false) := rfl
  refine (ifS_ok (tru_ok (cD_ok (c1_ok (cD_ok (frz_ok lc)) dd an)) dd rfl)).trans ?_
  cases x9 with
  | none => rfl
  | some t => cases t <;> rfl
theorem T9 {L : List Nat} (g : Good1 L) : lb9 (Rr ns x1 x2 x3 (some (.v (.str L))) (some (.v (ord L))) x6 x7 x8 x9 x10) = .next (Rr ns x1 x2 x3 (some (.v (.str L))) (some (.v (ord L))) x6 x7 x8 x9 x10) := by
  have hl := g.le
  have f : fits L.length = true := fits_s (by omega)
  by_cases h : 1 < L.length
  · have h' : (1 : Int) < (L.length : Int) := by omega
    have c := contains_str (L := L) (s := L)
    have e : inO L (.str L) = false := by
      unfold inO
      split
      · rename_i c e
        injection e with e
        rw [e] at h
        simp at h
      · rfl
    rw [e] at c
    simp [runF, seqS, ifS, bindS, bindR, isBl, DL.c2, DL.c1, cD, cSlot, cVar, DL.ret, lift, der, deref, setS, setR, setF, setIxS, retS, retF, retV, nextS, exprS, Tr.fz, frz, cCall, aCons, callR, argTs, argT, slotsOk, posOf, backR, cCons, cTup, cLst, cTru, cNotB, cNotV, cOrB, cAndB, cAndV, cOrV, cNeg, cPart, cSl, appC, cFld, fldS, cMake, makeR, raiseS, fsD, tryS, handle, noX, wipeO, xfC, cOwn1, cOwn2, cOwn2r, cLenO, lenT, cInO, inT, cOwnE, DLO.eqT, DLO.neT, cListA, listA, putD, isi_str_non, isi_str_bl, isi_str_int, isi_str_str, isi_str_tup, isi_str_lst, isi_str_dic, isi_int_non, isi_int_bl, isi_int_int, isi_int_str, isi_int_tup, isi_int_lst, isi_int_dic, isi_bool_non, isi_bool_bl, isi_bool_int, isi_bool_str, isi_bool_tup, isi_bool_lst, isi_bool_dic, isi_Order_non, isi_Order_bl, isi_Order_int, isi_Order_str, isi_Order_tup, isi_Order_lst, isi_Order_dic, isi_Order_ord, truD, dLen, dInt, dLt, dLe, dGt, dGe, fI, atI_0, atI_1, atI_2, lb9, f, h', isC_ord, c]
  · have h' : ¬ (1 : Int) < (L.length : Int) := by omega
    simp [runF, seqS, ifS, bindS, bindR, isBl, DL.c2, DL.c1, cD, cSlot, cVar, DL.ret, lift, der, deref, setS, setR, setF, setIxS, retS, retF, retV, nextS, exprS, Tr.fz, frz, cCall, aCons, callR, argTs, argT, slotsOk, posOf, backR, cCons, cTup, cLst, cTru, cNotB, cNotV, cOrB, cAndB, cAndV, cOrV, cNeg, cPart, cSl, appC, cFld, fldS, cMake, makeR, raiseS, fsD, tryS, handle, noX, wipeO, xfC, cOwn1, cOwn2, cOwn2r, cLenO, lenT, cInO, inT, cOwnE, DLO.eqT, DLO.neT, cListA, listA, putD, isi_str_non, isi_str_bl, isi_str_int, isi_str_str, isi_str_tup, isi_str_lst, isi_str_dic, isi_int_non, isi_int_bl, isi_int_int, isi_int_str, isi_int_tup, isi_int_lst, isi_int_dic, isi_bool_non, isi_bool_bl, isi_bool_int, isi_bool_str, isi_bool_tup, isi_bool_lst, isi_bool_dic, isi_Order_non, isi_Order_bl, isi_Order_int, isi_Order_str, isi_Order_tup, isi_Order_lst, isi_Order_dic, isi_Order_ord, truD, dLen, dInt, dLt, dLe, dGt, dGe, fI, atI_0, atI_1, atI_2, lb9, f, h']
theorem Good1.rev {L : List Nat} (g : Good1 L) : Good1 L.reverse := ⟨by simpa using g.n0, by rw [List.Nodup, List.pairwise_reverse]; exact g.nd.imp fun h => h.symm, fun c h => g.al c (by simpa using h), by simpa using g.le⟩
theorem T10 {L : List Nat} (g : Good1 L) : lb10 (Rr ns x1 x2 x3 x4 (some (.v (ord L))) x6 x7 x8 x9 x10) = .next (Rr ns x1 x2 x3 x4 (some (.v (ord L))) x6 (some (.o (ord L.reverse))) x8 x9 x10) := by
  simp [runF, seqS, ifS, bindS, bindR, isBl, DL.c2, DL.c1, cD, cSlot, cVar, DL.ret, lift, der, deref, setS, setR, setF, setIxS, retS, retF, retV, nextS, exprS, Tr.fz, frz, cCall, aCons, callR, argTs, argT, slotsOk, posOf, backR, cCons, cTup, cLst, cTru, cNotB, cNotV, cOrB, cAndB, cAndV, cOrV, cNeg, cPart, cSl, appC, cFld, fldS, cMake, makeR, raiseS, fsD, tryS, handle, noX, wipeO, xfC, cOwn1, cOwn2, cOwn2r, cLenO, lenT, cInO, inT, cOwnE, DLO.eqT, DLO.neT, cListA, listA, putD, isi_str_non, isi_str_bl, isi_str_int, isi_str_str, isi_str_tup, isi_str_lst, isi_str_dic, isi_int_non, isi_int_bl, isi_int_int, isi_int_str, isi_int_tup, isi_int_lst, isi_int_dic, isi_bool_non, isi_bool_bl, isi_bool_int, isi_bool_str, isi_bool_tup, isi_bool_lst, isi_bool_dic, isi_Order_non, isi_Order_bl, isi_Order_int, isi_Order_str, isi_Order_tup, isi_Order_lst, isi_Order_dic, isi_Order_ord, truD, dLen, dInt, dLt, dLe, dGt, dGe, fI, atI_0, atI_1, atI_2, lb10, isC_ord, neg_ok g]
theorem sideD_ord {L : List Nat} : sideD "Order" (ord L) = true := rfl
theorem T11 {L : List Nat} (g : Good1 L) : lb11 (Rr ns x1 x2 x3 (some (.v (.str L))) (some (.v (ord L))) x6 (some (.o (ord L.reverse))) x8 x9 x10) = .next (Rr ns x1 x2 x3 (some (.v (.str L))) (some (.v (ord L))) x6 (some (.v (ord L.reverse))) x8 x9 x10) := by
  have hl := g.le
  have f : fits L.length = true := fits_s (by omega)
  have n := neg_ok g.rev
  rw [List.reverse_reverse] at n
  have q := eq_ord g.lt g.lt
  rw [decide_eq_true rfl] at q
  simp [runF, seqS, ifS, bindS, bindR, isBl, DL.c2, DL.c1, cD, cSlot, cVar, DL.ret, lift, der, deref, setS, setR, setF, setIxS, retS, retF, retV, nextS, exprS, Tr.fz, frz, cCall, aCons, callR, argTs, argT, slotsOk, posOf, backR, cCons, cTup, cLst, cTru, cNotB, cNotV, cOrB, cAndB, cAndV, cOrV, cNeg, cPart, cSl, appC, cFld, fldS, cMake, makeR, raiseS, fsD, tryS, handle, noX, wipeO, xfC, cOwn1, cOwn2, cOwn2r, cLenO, lenT, cInO, inT, cOwnE, DLO.eqT, DLO.neT, cListA, listA, putD, isi_str_non, isi_str_bl, isi_str_int, isi_str_str, isi_str_tup, isi_str_lst, isi_str_dic, isi_int_non, isi_int_bl, isi_int_int, isi_int_str, isi_int_tup, isi_int_lst, isi_int_dic, isi_bool_non, isi_bool_bl, isi_bool_int, isi_bool_str, isi_bool_tup, isi_bool_lst, isi_bool_dic, isi_Order_non, isi_Order_bl, isi_Order_int, isi_Order_str, isi_Order_tup, isi_Order_lst, isi_Order_dic, isi_Order_ord, truD, dLen, dInt, dLt, dLe, dGt, dGe, fI, atI_0, atI_1, atI_2, lb11, fld_let, dRev, f, ne_same g.lt, ne_same g.rev.lt, isC_ord, sideD_ord, n, q]
end
end Lw
end
section
set_option Elab.async false
set_option linter.all false
set_option maxRecDepth 100000
set_option maxHeartbeats 4000000
namespace Lw
open PySem PySem.Spec PyProof.Rows L2 DL DLO DG
section
variable {ns : List Int} {x1 x2 x3 x4 x5 x6 x7 x8 x9 x10 : Option Tr}
def others (L : List Nat) (a : Nat) : List Dt := [ord (L ++ [a]), .str L, sgs L, .non] ++ (if 1 < L.length then [ord L.reverse] else [])
theorem mul1 {d : Dt} : dMul (.lst [d]) (.int 1) = some (.lst [d]) := by
  have f : fits ([d].length * (1 : Int).toNat) = true := fits_s (by simp)
  simp [dMul, repL]
  exact fits_s (by omega)
theorem mul0 {d : Dt} : dMul (.lst [d]) (.int 0) = some (.lst []) := by
  simp [dMul, repL]
  exact fits_s (by omega)
theorem good_more {L : List Nat} {a : Nat} (g : Good1 L) (ha : a ∉ L) (hb : a ∈ alph) : f_Order___init__ [.o (.obj "Order" []), .v (.str (L ++ [a]))] = .ret (.v .non) [some (.o (ord (L ++ [a]))), some (.v (.str (L ++ [a])))] := by
  refine order_ok (by simp) ?_ ?_ (by have := g.le; simp; omega)
  · rw [List.nodup_append]
    exact ⟨g.nd, by simp, fun x hx y hy => by
      have : y = a := by simpa using hy
      subst this
      exact fun e => ha (e ▸ hx)⟩
  · intro c hc
    rcases List.mem_append.mp hc with h | h
    · exact g.al c h
    · have : c = a := by simpa using h
      exact this ▸ hb
theorem T12 {L S : List Nat} {a : Nat} (g : Good1 L) (h5 : atI (S.map fun c => sg c) 5 = some (sg a)) (ha : a ∉ L) (hb : a ∈ alph) : lb12 (Rr ns x1 x2 (some (.o (sgs S))) (some (.v (.str L))) x5 x6 (some (.v (ord L.reverse))) x8 x9 x10) = .next (Rr ns x1 x2 (some (.o (sgs S))) (some (.v (.str L))) x5 x6 (some (.v (ord L.reverse))) (some (.v (.lst (others L a)))) x9 x10) := by
  have hl := g.le
  have f : fits L.length = true := fits_s (by omega)
  have f1 : fits (L.length + 1) = true := fits_s (by omega)
  have f2 : fits 1 = true := fits_s (by omega)
  have f4 : fits 4 = true := fits_s (by omega)
  have f5 : fits 5 = true := fits_s (by omega)
  have e := good_more g ha hb
  by_cases h : 1 < L.length
  · have h' : (1 : Int) < (L.length : Int) := by omega
    simp [runF, seqS, ifS, bindS, bindR, isBl, DL.c2, DL.c1, cD, cSlot, cVar, DL.ret, lift, der, deref, setS, setR, setF, setIxS, retS, retF, retV, nextS, exprS, Tr.fz, frz, cCall, aCons, callR, argTs, argT, slotsOk, posOf, backR, cCons, cTup, cLst, cTru, cNotB, cNotV, cOrB, cAndB, cAndV, cOrV, cNeg, cPart, cSl, appC, cFld, fldS, cMake, makeR, raiseS, fsD, tryS, handle, noX, wipeO, xfC, cOwn1, cOwn2, cOwn2r, cLenO, lenT, cInO, inT, cOwnE, DLO.eqT, DLO.neT, cListA, listA, putD, isi_str_non, isi_str_bl, isi_str_int, isi_str_str, isi_str_tup, isi_str_lst, isi_str_dic, isi_int_non, isi_int_bl, isi_int_int, isi_int_str, isi_int_tup, isi_int_lst, isi_int_dic, isi_bool_non, isi_bool_bl, isi_bool_int, isi_bool_str, isi_bool_tup, isi_bool_lst, isi_bool_dic, isi_Order_non, isi_Order_bl, isi_Order_int, isi_Order_str, isi_Order_tup, isi_Order_lst, isi_Order_dic, isi_Order_ord, truD, dLen, dInt, dLt, dLe, dGt, dGe, fI, atI_0, atI_1, atI_2, lb12, dIx, h5, dAdd, f1, e, f, h', f2, mul1, f4, f5, others, h]
  · have h' : ¬ (1 : Int) < (L.length : Int) := by omega
    simp [runF, seqS, ifS, bindS, bindR, isBl, DL.c2, DL.c1, cD, cSlot, cVar, DL.ret, lift, der, deref, setS, setR, setF, setIxS, retS, retF, retV, nextS, exprS, Tr.fz, frz, cCall, aCons, callR, argTs, argT, slotsOk, posOf, backR, cCons, cTup, cLst, cTru, cNotB, cNotV, cOrB, cAndB, cAndV, cOrV, cNeg, cPart, cSl, appC, cFld, fldS, cMake, makeR, raiseS, fsD, tryS, handle, noX, wipeO, xfC, cOwn1, cOwn2, cOwn2r, cLenO, lenT, cInO, inT, cOwnE, DLO.eqT, DLO.neT, cListA, listA, putD, isi_str_non, isi_str_bl, isi_str_int, isi_str_str, isi_str_tup, isi_str_lst, isi_str_dic, isi_int_non, isi_int_bl, isi_int_int, isi_int_str, isi_int_tup, isi_int_lst, isi_int_dic, isi_bool_non, isi_bool_bl, isi_bool_int, isi_bool_str, isi_bool_tup, isi_bool_lst, isi_bool_dic, isi_Order_non, isi_Order_bl, isi_Order_int, isi_Order_str, isi_Order_tup, isi_Order_lst, isi_Order_dic, isi_Order_ord, truD, dLen, dInt, dLt, dLe, dGt, dGe, fI, atI_0, atI_1, atI_2, lb12, dIx, h5, dAdd, f1, e, f, h', f2, mul0, f4, others, h]
theorem rev_ne {L : List Nat} (h : L.Nodup) (h1 : 1 < L.length) : L ≠ L.reverse := by
  intro e
  have e0 : L[0] = L[L.length - 1] := by
    have : L[0] = L.reverse[0]'(by simp; omega) := by
      congr 1
    rw [this, List.getElem_reverse]
    simp
  have := (List.getElem_inj h).mp e0
  omega
theorem other_ok {L : List Nat} {a : Nat} (g : Good1 L) (ha : a ∉ L) (hb : a ∈ alph) : ∀ d ∈ others L a, f_Order___eq__ [.v (ord L), .v d] = .ret (.v (.bl false)) [some (.v (ord L)), some (.v d)] ∧ sideD "Order" d = true := by
  intro d hd
  unfold others at hd
  rcases List.mem_append.mp hd with hd | hd
  · simp only [List.mem_cons, List.not_mem_nil, or_false] at hd
    rcases hd with h | h | h | h <;> subst h
    · refine ⟨?_, rfl⟩
      have q := eq_ord (M := L ++ [a]) g.lt (fun c hc => by
        rcases List.mem_append.mp hc with h | h
        · exact g.lt c h
        · have : c = a := by simpa using h
          exact this ▸ alph_lt hb)
      rw [decide_eq_false (fun e => by
        have := congrArg List.length e
        simp at this)] at q
      exact q
    · exact ⟨eq_str, rfl⟩
    · exact ⟨eq_no rfl, rfl⟩
    · exact ⟨eq_no rfl, rfl⟩
  · split at hd
    · rename_i h1
      have : d = ord L.reverse := by simpa using hd
      subst this
      refine ⟨?_, rfl⟩
      have q := eq_ord g.lt g.rev.lt
      rw [decide_eq_false (rev_ne g.nd h1)] at q
      exact q
    · cases hd
theorem T13 {L : List Nat} {a : Nat} (g : Good1 L) (ha : a ∉ L) (hb : a ∈ alph) : lb13 (Rr ns x1 x2 x3 (some (.v (.str L))) (some (.v (ord L))) x6 x7 (some (.v (.lst (others L a)))) x9 x10) = .next (Rr ns x1 x2 x3 (some (.v (.str L))) (some (.v (ord L))) x6 x7 (some (.v (.lst (others L a)))) x9 (kept x10)) := by
  have hi : cIter (cVar 8) (Rr ns x1 x2 x3 (some (.v (.str L))) (some (.v (ord L))) x6 x7 (some (.v (.lst (others L a)))) x9 x10) = .ok (others L a) (Rr ns x1 x2 x3 (some (.v (.str L))) (some (.v (ord L))) x6 x7 (some (.v (.lst (others L a)))) x9 x10) := bind_lift (var_ok (d := .lst (others L a)) rfl) rfl
  have lc := cLc_map2 (k := 10) (ce := (cOrV (bindR (cOwnE "Order" f_Order___eq__ (cD (cVar 5)) (cD (cVar 10))) DLO.eqT) (cNotV (bindR (cOwnE "Order" f_Order___eq__ (cD (cVar 5)) (cD (cVar 10))) DLO.neT)))) (f := fun _ => .bl false) hi rfl rfl (fun d hd => by
    obtain ⟨q1, q2⟩ := other_ok g ha hb d hd
    simp [runF, seqS, ifS, bindS, bindR, isBl, DL.c2, DL.c1, cD, cSlot, cVar, DL.ret, lift, der, deref, setS, setR, setF, setIxS, retS, retF, retV, nextS, exprS, Tr.fz, frz, cCall, aCons, callR, argTs, argT, slotsOk, posOf, backR, cCons, cTup, cLst, cTru, cNotB, cNotV, cOrB, cAndB, cAndV, cOrV, cNeg, cPart, cSl, appC, cFld, fldS, cMake, makeR, raiseS, fsD, tryS, handle, noX, wipeO, xfC, cOwn1, cOwn2, cOwn2r, cLenO, lenT, cInO, inT, cOwnE, DLO.eqT, DLO.neT, cListA, listA, putD, isi_str_non, isi_str_bl, isi_str_int, isi_str_str, isi_str_tup, isi_str_lst, isi_str_dic, isi_int_non, isi_int_bl, isi_int_int, isi_int_str, isi_int_tup, isi_int_lst, isi_int_dic, isi_bool_non, isi_bool_bl, isi_bool_int, isi_bool_str, isi_bool_tup, isi_bool_lst, isi_bool_dic, isi_Order_non, isi_Order_bl, isi_Order_int, isi_Order_str, isi_Order_tup, isi_Order_lst, isi_Order_dic, isi_Order_ord, truD, dLen, dInt, dLt, dLe, dGt, dGe, fI, atI_0, atI_1, atI_2, isC_ord, q1, q2]) (by unfold others; split <;> simp)
  have an : dAny (.lst ((others L a).map fun _ => .bl false)) = some (.bl false) := by
    unfold others
    split <;> rfl
  have e1 := (tru_ok (cD_ok (c1_ok (cD_ok (frz_ok lc)) dd an)) dd rfl)
  have q := eq_ord g.lt g.lt
  rw [decide_eq_true rfl] at q
  have o := order_ok g.n0 g.nd g.al (by have := g.le; omega)
  refine (ifS_ok (b := false) (ρ' := Rr ns x1 x2 x3 (some (.v (.str L))) (some (.v (ord L))) x6 x7 (some (.v (.lst (others L a)))) x9 (kept x10)) ((orB_f e1).trans ?_)).trans rfl
  have r : Rr ns x1 x2 x3 (some (.v (.str L))) (some (.v (ord L))) x6 x7 (some (.v (.lst (others L a)))) x9 (kept x10) = backV (Rr ns x1 x2 x3 (some (.v (.str L))) (some (.v (ord L))) x6 x7 (some (.v (.lst (others L a)))) x9 x10) ((Rr ns x1 x2 x3 (some (.v (.str L))) (some (.v (ord L))) x6 x7 (some (.v (.lst (others L a)))) x9 x10).set 10 none) [10] := by
    cases x10 with
    | none => rfl
    | some t => cases t <;> rfl
  rw [← r]
  generalize kept x10 = y
  simp [runF, seqS, ifS, bindS, bindR, isBl, DL.c2, DL.c1, cD, cSlot, cVar, DL.ret, lift, der, deref, setS, setR, setF, setIxS, retS, retF, retV, nextS, exprS, Tr.fz, frz, cCall, aCons, callR, argTs, argT, slotsOk, posOf, backR, cCons, cTup, cLst, cTru, cNotB, cNotV, cOrB, cAndB, cAndV, cOrV, cNeg, cPart, cSl, appC, cFld, fldS, cMake, makeR, raiseS, fsD, tryS, handle, noX, wipeO, xfC, cOwn1, cOwn2, cOwn2r, cLenO, lenT, cInO, inT, cOwnE, DLO.eqT, DLO.neT, cListA, listA, putD, isi_str_non, isi_str_bl, isi_str_int, isi_str_str, isi_str_tup, isi_str_lst, isi_str_dic, isi_int_non, isi_int_bl, isi_int_int, isi_int_str, isi_int_tup, isi_int_lst, isi_int_dic, isi_bool_non, isi_bool_bl, isi_bool_int, isi_bool_str, isi_bool_tup, isi_bool_lst, isi_bool_dic, isi_Order_non, isi_Order_bl, isi_Order_int, isi_Order_str, isi_Order_tup, isi_Order_lst, isi_Order_dic, isi_Order_ord, truD, dLen, dInt, dLt, dLe, dGt, dGe, fI, atI_0, atI_1, atI_2, o, isC_ord, sideD_ord, q]
end
end Lw
end
section
set_option Elab.async false
set_option linter.all false
set_option maxRecDepth 100000
set_option maxHeartbeats 4000000
namespace Lw
open PySem PySem.Spec PyProof.Rows L2 DL DLO DG
structure Bad (d : Dt) : Prop where
  al : f_are_letters [.v d] = .ret (.v (.bl false)) [some (.v d)]
  eq : dEqX (.tup [.str badS, d]) (.tup [.str badS, d]) = some (.bl true)
  bl : ∃ b, dIsi bs_bool co_bool d = some (.bl b)
theorem foldl_ded_nodup : ∀ (s acc : List Nat), acc.Nodup → (s.foldl ded acc).Nodup ∧ (∀ c ∈ s.foldl ded acc, c ∈ acc ∨ c ∈ s)
  | [], acc, h => ⟨h, fun c hc => .inl hc⟩
  | x :: s, acc, h => by
    simp only [List.foldl_cons]
    by_cases hx : x ∈ acc
    · rw [show ded acc x = acc by unfold ded; rw [if_pos hx]]
      obtain ⟨h1, h2⟩ := foldl_ded_nodup s acc h
      exact ⟨h1, fun c hc => (h2 c hc).elim .inl fun z => .inr (List.mem_cons_of_mem _ z)⟩
    · rw [show ded acc x = acc ++ [x] by unfold ded; rw [if_neg hx]]
      obtain ⟨h1, h2⟩ := foldl_ded_nodup s (acc ++ [x]) (by
        rw [List.nodup_append]
        exact ⟨h, by simp, fun a ha b hb => by
          have : b = x := by simpa using hb
          subst this
          exact fun e => hx (e ▸ ha)⟩)
      refine ⟨h1, fun c hc => ?_⟩
      rcases h2 c hc with z | z
      · rcases List.mem_append.mp z with z | z
        · exact .inl z
        · have : c = x := by simpa using z
          exact .inr (this ▸ List.mem_cons_self)
      · exact .inr (List.mem_cons_of_mem _ z)
/-- a letter twice -/
theorem ded_lt {s : List Nat} (h : (s.foldl ded []).length = s.length) : s.Nodup := by
  have key : ∀ (s acc : List Nat), acc.Nodup → (s.foldl ded acc).length ≤ acc.length + s.length ∧ ((s.foldl ded acc).length = acc.length + s.length → (acc ++ s).Nodup) := by
    intro s
    induction s with
    | nil => intro acc h; simp [h]
    | cons x s ih =>
      intro acc h
      simp only [List.foldl_cons, List.length_cons]
      by_cases hx : x ∈ acc
      · rw [show ded acc x = acc by unfold ded; rw [if_pos hx]]
        obtain ⟨h1, h2⟩ := ih acc h
        exact ⟨by omega, fun e => by omega⟩
      · rw [show ded acc x = acc ++ [x] by unfold ded; rw [if_neg hx]]
        obtain ⟨h1, h2⟩ := ih (acc ++ [x]) (by
          rw [List.nodup_append]
          exact ⟨h, by simp, fun a ha b hb => by
            have : b = x := by simpa using hb
            subst this
            exact fun e => hx (e ▸ ha)⟩)
        rw [List.length_append, List.length_singleton] at h1 h2
        refine ⟨by omega, fun e => ?_⟩
        have := h2 (by omega)
        rwa [List.append_assoc] at this
  have := (key s [] List.nodup_nil).2 (by simpa using h)
  simpa using this
theorem bad_str {s : List Nat} (hL : ∀ c ∈ s, c < 1000) (hl : s.length ≤ 100) (h : s = [] ∨ (∃ c ∈ s, c ∉ alph) ∨ ¬ s.Nodup) : Bad (.str s) := by
  refine ⟨?_, eqx_py badS_lt rfl (by simpa [PyData.canLay0] using strOk_s hL) (by simp [PyData.depth]), ⟨_, rfl⟩⟩
  rw [al_str hL hl]
  have : areL s = false := by
    unfold areL
    rcases h with h | ⟨c, h1, h2⟩ | h
    · subst h
      simp
    · have : (s.all fun c => decide (c ∈ alph)) = false := by
        rw [List.all_eq_false]
        exact ⟨c, h1, by rw [decide_eq_false h2]; exact Bool.false_ne_true⟩
      rw [this]
      simp
    · rw [decide_eq_false fun e => h (ded_lt e)]
      simp
  rw [this]
def bads (L : List Nat) (r : Nat) : List Dt := [.str (L.take r ++ [L.headD 0] ++ L.drop r), .str (L.take r ++ [65] ++ L.drop r), .str (L.take r ++ [32] ++ L.drop r), .str (L.take r ++ [49] ++ L.drop r), .str (L.take r ++ [10] ++ L.drop r), .str [], .non, .int 7, sgs L, .tup [.str L], .bl true, .dic 0 []]
theorem sp_lt {L : List Nat} {r a : Nat} (hL : ∀ c ∈ L, c < 1000) (ha : a < 1000) : ∀ c ∈ L.take r ++ [a] ++ L.drop r, c < 1000 := by
  intro c hc
  rcases List.mem_append.mp hc with h | h
  · rcases List.mem_append.mp h with h | h
    · exact hL c (List.mem_of_mem_take h)
    · have : c = a := by simpa using h
      exact this ▸ ha
  · exact hL c (List.mem_of_mem_drop h)
theorem sp_len {L : List Nat} {r a : Nat} : (L.take r ++ [a] ++ L.drop r).length ≤ L.length + 1 := by
  simp only [List.length_append, List.length_take, List.length_drop, List.length_singleton]
  omega
theorem sp_mem {L : List Nat} {r a : Nat} : a ∈ L.take r ++ [a] ++ L.drop r := by simp
theorem sp_dup {L : List Nat} {r a : Nat} (h : a ∈ L) : ¬ (L.take r ++ [a] ++ L.drop r).Nodup := by
  intro n
  have p : (L.take r ++ [a] ++ L.drop r).Perm (a :: L) := by
    rw [List.append_assoc]
    have e : a :: L = a :: (L.take r ++ L.drop r) := by rw [List.take_append_drop]
    rw [e]
    show (L.take r ++ a :: L.drop r).Perm _
    exact List.perm_middle
  have := p.nodup_iff.mp n
  rw [List.nodup_cons] at this
  exact this.1 h
theorem bads_ok {L : List Nat} {r : Nat} (g : Good1 L) : ∀ d ∈ bads L r, Bad d := by
  have hl := g.le
  have hd0 : L.headD 0 ∈ L := by
    cases L with
    | nil => exact absurd rfl g.n0
    | cons b r => exact List.mem_cons_self
  intro d hd
  simp only [bads, List.mem_cons, List.not_mem_nil, or_false] at hd
  have out : ∀ {a : Nat}, a < 1000 → a ∉ alph → Bad (.str (L.take r ++ [a] ++ L.drop r)) := fun {a} h1 h2 => bad_str (sp_lt g.lt h1) (by have := sp_len (L := L) (r := r) (a := a); omega) (.inr (.inl ⟨a, sp_mem, h2⟩))
  rcases hd with h | h | h | h | h | h | h | h | h | h | h | h <;> subst h
  · exact bad_str (sp_lt g.lt (g.lt _ hd0)) (by have := sp_len (L := L) (r := r) (a := L.headD 0); omega) (.inr (.inr (sp_dup hd0)))
  · exact out (by decide) (by decide)
  · exact out (by decide) (by decide)
  · exact out (by decide) (by decide)
  · exact out (by decide) (by decide)
  · exact bad_str (fun c h => by cases h) (by simp) (.inl rfl)
  · exact ⟨al_no rfl, eqx_py badS_lt rfl rfl (by simp [PyData.depth]), ⟨_, rfl⟩⟩
  · exact ⟨al_no rfl, eqx_py badS_lt rfl rfl (by simp [PyData.depth]), ⟨_, rfl⟩⟩
  · obtain ⟨q, e, h1, h2⟩ := py_sgs g.lt
    exact ⟨al_no rfl, eqx_py badS_lt e (by simpa [PyData.canLay0] using h1) (by simp only [PyData.depth]; omega), ⟨_, rfl⟩⟩
  · exact ⟨al_no rfl, eqx_py badS_lt rfl (by simpa [PyData.canLay0, PyData.canLayAll0] using strOk_s g.lt) (by simp [PyData.depth, PyData.depthAll]), ⟨_, rfl⟩⟩
  · exact ⟨al_no rfl, eqx_py badS_lt rfl rfl (by simp [PyData.depth]), ⟨_, rfl⟩⟩
  · exact ⟨al_no rfl, eqx_dic badS_lt, ⟨_, rfl⟩⟩
theorem spoilt_ok {t : Nat} {i j c : Int} {L : List Nat} (g : Good1 L) (ht : t ≤ 900) (P : Pk t i j c) : ∃ (r : Nat) (i' c' : Int), Pk (t + 1) i' j c' ∧ f__law_spoilt [.o (pl i j c), .v (.str L)] = .ret (.v (.lst (bads L r))) [some (.o (pl i' j c')), some (.v (.str L))] := by
  have hl := g.le
  obtain ⟨r, i', c', hr, P', e⟩ := take_n (m := L.length + 1) (by omega) P (by omega) (by omega)
  have e2 : f__law_take [.o (pl i j c), .v (.int ((L.length : Nat) + 1 : Int))] = .ret (.v (.int (r : Nat))) [some (.o (pl i' j c')), some (.v (.int ((L.length : Nat) + 1 : Int)))] := by
    have := e
    rwa [Int.natCast_add] at this
  refine ⟨r, i', c', P', ?_⟩
  obtain ⟨b, q, rfl⟩ : ∃ b r, L = b :: r := by
    cases L with
    | nil => exact absurd rfl g.n0
    | cons b r => exact ⟨b, r, rfl⟩
  generalize hL : b :: q = L at *
  have f : fits L.length = true := fits_s (by omega)
  have f5 : fits 5 = true := fits_s (by omega)
  have f1 : fits 1 = true := fits_s (by omega)
  have f7 : fits 7 = true := fits_s (by omega)
  have f12 : fits 12 = true := fits_s (by omega)
  have h0 : atI L 0 = some (L.headD 0) := by rw [← hL]; exact atI_0
  have fa : fits (min r L.length + 1) = true := fits_s (by omega)
  have fb : fits (min r L.length + (L.length - r + 1)) = true := fits_s (by omega)
  have fc : fits (min r L.length + 1 + (L.length - r)) = true := fits_s (by omega)
  have z0 : (0 : Nat) < sizeLine := by rw [sizeLine_eq]; omega
  have z1 : (1 : Nat) < sizeLine := by rw [sizeLine_eq]; omega
  have z2 : (2 : Nat) < sizeLine := by rw [sizeLine_eq]; omega
  have z3 : (3 : Nat) < sizeLine := by rw [sizeLine_eq]; omega
  have z4 : (4 : Nat) < sizeLine := by rw [sizeLine_eq]; omega
  simp [runF, seqS, ifS, bindS, bindR, isBl, DL.c2, DL.c1, cD, cSlot, cVar, DL.ret, lift, der, deref, setS, setR, setF, setIxS, retS, retF, retV, nextS, exprS, Tr.fz, frz, cCall, aCons, callR, argTs, argT, slotsOk, posOf, backR, cCons, cTup, cLst, cTru, cNotB, cNotV, cOrB, cAndB, cAndV, cOrV, cNeg, cPart, cSl, appC, cFld, fldS, cMake, makeR, raiseS, fsD, tryS, handle, noX, wipeO, xfC, cOwn1, cOwn2, cOwn2r, cLenO, lenT, cInO, inT, cOwnE, DLO.eqT, DLO.neT, cListA, listA, putD, isi_str_non, isi_str_bl, isi_str_int, isi_str_str, isi_str_tup, isi_str_lst, isi_str_dic, isi_int_non, isi_int_bl, isi_int_int, isi_int_str, isi_int_tup, isi_int_lst, isi_int_dic, isi_bool_non, isi_bool_bl, isi_bool_int, isi_bool_str, isi_bool_tup, isi_bool_lst, isi_bool_dic, isi_Order_non, isi_Order_bl, isi_Order_int, isi_Order_str, isi_Order_tup, isi_Order_lst, isi_Order_dic, isi_Order_ord, truD, dLen, dInt, dLt, dLe, dGt, dGe, fI, atI_0, atI_1, atI_2, c__law_spoilt, f, dAdd, e2, cLc, cIter, itemsD, lcLoop, gNm, wipeR, backV, dIx, h0, f5, dSl, cut_take, cut_drop, fa, fb, fc, z0, z1, z2, z3, z4, f1, f7, f12, cDicN, bads]
end Lw
end
section
set_option Elab.async false
set_option linter.all false
set_option maxRecDepth 100000
set_option maxHeartbeats 4000000
namespace Lw
open PySem PySem.Spec PyProof.Rows L2 DL DLO DG
section
variable {ns : List Int} {x1 x2 x3 x4 x5 x6 x7 x8 x9 x10 : Option Tr}
theorem T14 {i j c : Int} {L : List Nat} (g : Good1 L) (P : Pk 27 i j c) : ∃ y2 y9, lb14 (Rr ns x1 (some (.o (pl i j c))) x3 (some (.v (.str L))) x5 x6 x7 x8 x9 x10) = .next (Rr ns x1 y2 x3 (some (.v (.str L))) x5 x6 x7 x8 y9 x10) := by
  obtain ⟨r, i', c', P', e⟩ := spoilt_ok (t := 27) g (by omega) P
  have f2 : fits 2 = true := fits_s (by omega)
  obtain ⟨y, el⟩ := loop_each (g := gNm 9) (body := (ifS (cNotB (cTru (cD (frz (cCall 2 [] f__law_is_told (aCons (cD (frz (cCall 1 [] f__law_refused (aCons (cD (cVar 9)) (DL.ret []))))) (aCons (cD (cTup (cCons (DL.ret (.str [98, 97, 100])) (cCons (cVar 9) (DL.ret []))))) (DL.ret [])))))))) (retS (DL.ret (.bl false))) nextS)) (fun y => Rr ns x1 (some (.o (pl i' j c'))) x3 (some (.v (.str L))) x5 x6 x7 x8 y x10) (bads L r) x9 fun d hd => by
    refine ⟨fun x => rfl, ?_⟩
    obtain ⟨b1, b2, b, b3⟩ := bads_ok (r := r) g d hd
    simp [runF, seqS, ifS, bindS, bindR, isBl, DL.c2, DL.c1, cD, cSlot, cVar, DL.ret, lift, der, deref, setS, setR, setF, setIxS, retS, retF, retV, nextS, exprS, Tr.fz, frz, cCall, aCons, callR, argTs, argT, slotsOk, posOf, backR, cCons, cTup, cLst, cTru, cNotB, cNotV, cOrB, cAndB, cAndV, cOrV, cNeg, cPart, cSl, appC, cFld, fldS, cMake, makeR, raiseS, fsD, tryS, handle, noX, wipeO, xfC, cOwn1, cOwn2, cOwn2r, cLenO, lenT, cInO, inT, cOwnE, DLO.eqT, DLO.neT, cListA, listA, putD, isi_str_non, isi_str_bl, isi_str_int, isi_str_str, isi_str_tup, isi_str_lst, isi_str_dic, isi_int_non, isi_int_bl, isi_int_int, isi_int_str, isi_int_tup, isi_int_lst, isi_int_dic, isi_bool_non, isi_bool_bl, isi_bool_int, isi_bool_str, isi_bool_tup, isi_bool_lst, isi_bool_dic, isi_Order_non, isi_Order_bl, isi_Order_int, isi_Order_str, isi_Order_tup, isi_Order_lst, isi_Order_dic, isi_Order_ord, truD, dLen, dInt, dLt, dLe, dGt, dGe, fI, atI_0, atI_1, atI_2, refused_bad b1, f2, told_ok b2 b3]
  have s3 : (cIter (frz (cCall 2 [0] f__law_spoilt (aCons (cSlot 2) (aCons (cD (cVar 4)) (DL.ret [])))))) (Rr ns x1 (some (.o (pl i j c))) x3 (some (.v (.str L))) x5 x6 x7 x8 x9 x10) = .ok (bads L r) (Rr ns x1 (some (.o (pl i' j c'))) x3 (some (.v (.str L))) x5 x6 x7 x8 x9 x10) := by
    simp [runF, seqS, ifS, bindS, bindR, isBl, DL.c2, DL.c1, cD, cSlot, cVar, DL.ret, lift, der, deref, setS, setR, setF, setIxS, retS, retF, retV, nextS, exprS, Tr.fz, frz, cCall, aCons, callR, argTs, argT, slotsOk, posOf, backR, cCons, cTup, cLst, cTru, cNotB, cNotV, cOrB, cAndB, cAndV, cOrV, cNeg, cPart, cSl, appC, cFld, fldS, cMake, makeR, raiseS, fsD, tryS, handle, noX, wipeO, xfC, cOwn1, cOwn2, cOwn2r, cLenO, lenT, cInO, inT, cOwnE, DLO.eqT, DLO.neT, cListA, listA, putD, isi_str_non, isi_str_bl, isi_str_int, isi_str_str, isi_str_tup, isi_str_lst, isi_str_dic, isi_int_non, isi_int_bl, isi_int_int, isi_int_str, isi_int_tup, isi_int_lst, isi_int_dic, isi_bool_non, isi_bool_bl, isi_bool_int, isi_bool_str, isi_bool_tup, isi_bool_lst, isi_bool_dic, isi_Order_non, isi_Order_bl, isi_Order_int, isi_Order_str, isi_Order_tup, isi_Order_lst, isi_Order_dic, isi_Order_ord, truD, dLen, dInt, dLt, dLe, dGt, dGe, fI, atI_0, atI_1, atI_2, e, cIter, itemsD]
  exact ⟨_, y, (forS_ok s3).trans el⟩
end
theorem body_ok {ns : List Int} {x2 x3 x4 x5 x6 x7 x8 x9 x10 : Option Tr} (k : Nat) : ∃ y2 y3 y4 y5 y6 y7 y8 y9 y10, lbB (Rr ns (some (.v (.int (k : Nat)))) x2 x3 x4 x5 x6 x7 x8 x9 x10) = .next (Rr ns (some (.v (.int (k : Nat)))) y2 y3 y4 y5 y6 y7 y8 y9 y10) := by
  obtain ⟨i, j, P1, e1⟩ := T1 (ns := ns) (x2 := x2) (x3 := x3) (x4 := x4) (x5 := x5) (x6 := x6) (x7 := x7) (x8 := x8) (x9 := x9) (x10 := x10) k
  obtain ⟨S, i2, c2, hS, P2, e2⟩ := T2 (ns := ns) (x1 := some (.v (.int (k : Nat)))) (x3 := x3) (x4 := x4) (x5 := x5) (x6 := x6) (x7 := x7) (x8 := x8) (x9 := x9) (x10 := x10) P1
  have l26 : S.length = 26 := hS.length_eq.trans rfl
  have sn : S.Nodup := hS.nodup_iff.mpr (by decide)
  have sa : ∀ c ∈ S, c ∈ alph := fun c h => hS.mem_iff.mp h
  obtain ⟨r, i3, c3, hr, P3, e3⟩ := T3 (ns := ns) (x1 := some (.v (.int (k : Nat)))) (x4 := x4) (x5 := x5) (x6 := x6) (x7 := x7) (x8 := x8) (x9 := x9) (x10 := x10) P2 l26
  have g : Good1 (S.take (1 + r)) := ⟨fun e => by
      have := congrArg List.length e
      rw [List.length_take, l26] at this
      simp at this, sn.sublist (List.take_sublist _ _), fun c h => sa c (List.mem_of_mem_take h), by rw [List.length_take]; omega⟩
  have h5 : 5 < S.length := by omega
  have a5 : atI (S.map fun c => sg c) 5 = some (sg S[5]) := by
    have := atI_nat (l := S.map fun c => sg c) (k := 5) (by rw [List.length_map]; exact h5)
    rw [List.getElem_map] at this
    exact this
  have ha : S[5] ∉ S.take (1 + r) := by
    intro h
    obtain ⟨n, hn, e⟩ := List.mem_iff_getElem.mp h
    rw [List.getElem_take] at e
    have := (List.getElem_inj sn).mp e
    rw [List.length_take] at hn
    omega
  have hb : S[5] ∈ alph := sa _ (List.getElem_mem h5)
  generalize S.take (1 + r) = L at *
  generalize S[5] = a at *
  have s4 := T4 (ns := ns) (x1 := some (.v (.int (k : Nat)))) (x2 := some (.o (pl i3 j c3))) (x3 := some (.o (sgs S))) (x5 := x5) (x6 := x6) (x7 := x7) (x8 := x8) (x9 := x9) (x10 := x10) g
  have s5 := T5 (ns := ns) (x1 := some (.v (.int (k : Nat)))) (x2 := some (.o (pl i3 j c3))) (x3 := some (.o (sgs S))) (x6 := x6) (x7 := x7) (x8 := x8) (x9 := x9) (x10 := x10) g
  obtain ⟨y6, s6⟩ := T6 (ns := ns) (x1 := some (.v (.int (k : Nat)))) (x2 := some (.o (pl i3 j c3))) (x3 := some (.o (sgs S))) (x6 := x6) (x7 := x7) (x8 := x8) (x9 := x9) (x10 := x10) g
  obtain ⟨z6, s7⟩ := T7 (ns := ns) (x1 := some (.v (.int (k : Nat)))) (x2 := some (.o (pl i3 j c3))) (x3 := some (.o (sgs S))) (x6 := y6) (x7 := x7) (x8 := x8) (x9 := x9) (x10 := x10) g
  have s8 := T8 (ns := ns) (x1 := some (.v (.int (k : Nat)))) (x2 := some (.o (pl i3 j c3))) (x6 := z6) (x7 := x7) (x8 := x8) (x9 := x9) (x10 := x10) g a5 ha
  have s9 := T9 (ns := ns) (x1 := some (.v (.int (k : Nat)))) (x2 := some (.o (pl i3 j c3))) (x3 := some (.o (sgs S))) (x6 := z6) (x7 := x7) (x8 := x8) (x9 := kept x9) (x10 := x10) g
  have s10 := T10 (ns := ns) (x1 := some (.v (.int (k : Nat)))) (x2 := some (.o (pl i3 j c3))) (x3 := some (.o (sgs S))) (x4 := some (.v (.str L))) (x6 := z6) (x7 := x7) (x8 := x8) (x9 := kept x9) (x10 := x10) g
  have s11 := T11 (ns := ns) (x1 := some (.v (.int (k : Nat)))) (x2 := some (.o (pl i3 j c3))) (x3 := some (.o (sgs S))) (x6 := z6) (x8 := x8) (x9 := kept x9) (x10 := x10) g
  have s12 := T12 (ns := ns) (x1 := some (.v (.int (k : Nat)))) (x2 := some (.o (pl i3 j c3))) (x5 := some (.v (ord L))) (x6 := z6) (x8 := x8) (x9 := kept x9) (x10 := x10) g a5 ha hb
  have s13 := T13 (ns := ns) (x1 := some (.v (.int (k : Nat)))) (x2 := some (.o (pl i3 j c3))) (x3 := some (.o (sgs S))) (x6 := z6) (x7 := some (.v (ord L.reverse))) (x9 := kept x9) (x10 := x10) g ha hb
  obtain ⟨y2, y9, s14⟩ := T14 (ns := ns) (x1 := some (.v (.int (k : Nat)))) (x3 := some (.o (sgs S))) (x5 := some (.v (ord L))) (x6 := z6) (x7 := some (.v (ord L.reverse))) (x8 := some (.v (.lst (others L a)))) (x9 := kept x9) (x10 := kept x10) g P3
  exact ⟨_, _, _, _, _, _, _, _, _, (seqS_next e1).trans ((seqS_next e2).trans ((seqS_next e3).trans ((seqS_next s4).trans ((seqS_next s5).trans ((seqS_next s6).trans ((seqS_next s7).trans ((seqS_next s8).trans ((seqS_next s9).trans ((seqS_next s10).trans ((seqS_next s11).trans ((seqS_next s12).trans ((seqS_next s13).trans s14))))))))))))⟩
theorem loop_law {ns : List Int} : ∀ (ks : List Nat) {x1 x2 x3 x4 x5 x6 x7 x8 x9 x10 : Option Tr}, ∃ ρ', loopD (gNm 1) lbB (ks.map fun k => Dt.int (k : Nat)) (Rr ns x1 x2 x3 x4 x5 x6 x7 x8 x9 x10) = .next ρ'
  | [], _, _, _, _, _, _, _, _, _, _ => ⟨_, rfl⟩
  | k :: ks, x1, x2, x3, x4, x5, x6, x7, x8, x9, x10 => by
    obtain ⟨y2, y3, y4, y5, y6, y7, y8, y9, y10, e⟩ := body_ok (ns := ns) (x2 := x2) (x3 := x3) (x4 := x4) (x5 := x5) (x6 := x6) (x7 := x7) (x8 := x8) (x9 := x9) (x10 := x10) k
    obtain ⟨ρ', e2⟩ := loop_law (ns := ns) ks (x1 := some (.v (.int (k : Nat)))) (x2 := y2) (x3 := y3) (x4 := y4) (x5 := y5) (x6 := y6) (x7 := y7) (x8 := y8) (x9 := y9) (x10 := y10)
    exact ⟨ρ', (loop_cons (g := gNm 1) (d := .int (k : Nat)) rfl e).trans e2⟩
theorem plain (ns : List Int) (h : ns.length ≤ 63) : ∃ q, f_law [.v (.scr ns)] = .ret (.v (.bl true)) q := by
  obtain ⟨ρ', e⟩ := loop_law (ns := ns) [0, 1, 2, 3] (x1 := none) (x2 := none) (x3 := none) (x4 := none) (x5 := none) (x6 := none) (x7 := none) (x8 := none) (x9 := none) (x10 := none)
  have s3 : cRng1 (cCons (DL.ret (.int 4)) (DL.ret [])) (Rr ns none none none none none none none none none none) = .ok (([0, 1, 2, 3] : List Nat).map fun k => Dt.int (k : Nat)) (Rr ns none none none none none none none none none none) := by
    have := rng_of (n := 4) (c := cCons (DL.ret (.int 4)) (DL.ret [])) (ρ := Rr ns none none none none none none none none none none) (ρ' := Rr ns none none none none none none none none none none) (by omega) rfl
    rw [this]
    rfl
  refine ⟨_, runF_ret (ρ0 := Rr ns none none none none none none none none none none) (ρ := ρ') ?_ rfl⟩
  rw [lb_eq]
  exact (seqS_next ((forS_ok s3).trans e)).trans rfl
end Lw
end
section
set_option Elab.async false
set_option linter.all false
set_option maxRecDepth 100000
set_option maxHeartbeats 0
namespace Lw
open PySem PySem.Spec PyProof.Rows L2 DL DLO
abbrev R : PySem.W.OpenRow := PySem.W.OpenLaw.row PySem.Challenge.rw_endrows_k02_orders_made
abbrev hk : PySem.W.Hook := DLH.hookW PySem.Challenge.pw_endrows_k02_orders_made 6 fa fn xi ex
def ob (s : PySem.W.SharedT) : DLH.AlW := DLH.obsWG PySem.Challenge.pw_endrows_k02_orders_made 6 fa fn xi ex (HandSHeadRun.getT s)
theorem ob_eq (s : PySem.W.SharedT) : ob s = hk.obs s.abs := DLH.obsWG_eq (HandSHeadRun.getT_eq s)
def loose : List Str := ["_wall", "__name__", "SIGNS", "is_number", "RowError", "BadOrder", "NoLetter", "are_letters", "Order", "_law_cell", "_law_pool", "_law_take", "_law_mixed", "_law_refused", "_law_numbered", "_law_is_told", "_law_spoilt"]
theorem run (w : World) : HandSHeadRun.RunEq R (PySem.W.view R.prog [20]) hk ob 4000 loose w := by
  intro os
  kernel_rfl
end Lw
end
section
set_option Elab.async false
set_option linter.all false
set_option maxRecDepth 100000
set_option maxHeartbeats 0
open PySem PySem.W PySem.Calls PyProof.Rows
theorem PySem.Challenge.cw_endrows_k02_orders_made_holds : PySem.Challenge.rw_endrows_k02_orders_made.Holds := by
  w_on; o_law
  refine HandSHeadRun.head_any (r := OpenLaw.row PySem.Challenge.rw_endrows_k02_orders_made) (q := view (OpenLaw.row PySem.Challenge.rw_endrows_k02_orders_made).prog [20]) (H := Lw.hk) (ob := Lw.ob) (M := 4000) (loose := Lw.loose) (d := HandSHeadRun.topDef (OpenLaw.row PySem.Challenge.rw_endrows_k02_orders_made).prog 20) (kwd := []) Lw.ob_eq
    (by kernel_rfl) (fun s => by kernel_rfl) Lw.run (by kernel_rfl) (by kernel_rfl) (by kernel_rfl) (by rfl) (by first | assumption | decide +kernel) (by decide +kernel) ⟨rfl, rfl, rfl, rfl, rfl, by decide +kernel⟩ ?hw ?hc
  case hw => w_witness2
  case hc =>
    refine L2.walk_ofE (l := PySem.Challenge.rw_endrows_k02_orders_made) (n := 63) (k := 10) (x := "_law_script") (CX := DL.CXW PySem.Challenge.pw_endrows_k02_orders_made) rfl (by decide) (by kernel_rfl) ⟨rfl, by decide, by decide⟩ ?F (fun _ _ _ _ z => DL.cxw_none z)
    intro w mg fa h Y G hmg0
    obtain ⟨K, KX, c⟩ := Y
    have hmg : mg ("law" : PySem.Str) = some (.ref fa) := by
      have e : (HandSHeadRun.topDef (OpenLaw.row PySem.Challenge.rw_endrows_k02_orders_made).prog 20).name = ("law" : PySem.Str) := by kernel_rfl
      rw [← e]
      exact hmg0
    obtain ⟨fd, hb, hF⟩ := Lw.facts (w := w) KX G hmg c
    refine ⟨K, fd, DL.spD K mg 1 [] Lw.f_law, KX, hb, fun H a ns hl _ hS => ?_, fun base k g => (hF base k g).mono (by decide)⟩
    obtain ⟨q, hq⟩ := Lw.plain ns hl
    exact DL.law_sp hq hS
end
