import PyProof.Rows.All
import Wide.All
import OpenK.AllK
import Wide.FinOn
import HandS.ForMost
import HandS.TupAny
import HandS.IsInst
import HandS.TupLen
import KE.GoesNew
import HandS.Style
import HandS.Words
import HandS.Ends
import KE.SortData
import KE.KDictSum
import HandS.More
import HandS.Text
import HandS.StrMore
import HandS.Iter
import HandS.SetKeys
import HandS.Small
import HandS.DictTup
import PyProof.DictMoreH
import PyProof.ListStr
import HandS.Deep
import KE.KeyNested
import PySem.Challenge.RW_laidsheets_k03_covered_cells
set_option Elab.async false
set_option linter.all false
set_option maxRecDepth 100000
set_option maxHeartbeats 4000000
/-! Mi1: data, how data lies in a heap (Rp), owned data (Ow), the slots' cells (Cell, St), the state (Sta), what an expression's reading is worth (E). -/
namespace Mi
open PySem PySem.Spec PyProof.Rows L2

abbrev D := PyData
def keyD : Key → D
  | .inl i => .int i
  | .inr x => .str x

mutual
inductive Rp (K : PySem.W.Frag) (J : Hp) : V → D → Prop
  | non : Rp K J .non .none
  | bl (b : Bool) : Rp K J (.bl b) (.bool b)
  | int (i : Int) : Rp K J (.int i) (.int i)
  | str (x : Str) : Rp K J (.str x) (.str x)
  | lst {a : Addr} {xs : List V} {ds : List D} : J a = some (.lst xs) → RpAll K J xs ds → Rp K J (.ref a) (.list ds)
  | tup {a : Addr} {xs : List V} {ds : List D} : J a = some (.tup xs) → RpAll K J xs ds → Rp K J (.ref a) (.tuple ds)
  | dk {a : Addr} {kvs : List (Key × V)} {es : List (D × D)} : Rd J a (.dK kvs) → RpK K J kvs es → Rp K J (.ref a) (.dict es)
  | dt {a : Addr} {kvs : List (List Key × V)} {es : List (D × D)} : Rd J a (.dT kvs) → RpT K J kvs es → Rp K J (.ref a) (.dict es)
inductive RpAll (K : PySem.W.Frag) (J : Hp) : List V → List D → Prop
  | nil : RpAll K J [] []
  | cons {v : V} {vs : List V} {d : D} {ds : List D} : Rp K J v d → RpAll K J vs ds → RpAll K J (v :: vs) (d :: ds)
inductive RpK (K : PySem.W.Frag) (J : Hp) : List (Key × V) → List (D × D) → Prop
  | nil : RpK K J [] []
  | cons {k : Key} {v : V} {r : List (Key × V)} {d : D} {es : List (D × D)} : Rp K J v d → RpK K J r es → RpK K J ((k, v) :: r) ((keyD k, d) :: es)
inductive RpT (K : PySem.W.Frag) (J : Hp) : List (List Key × V) → List (D × D) → Prop
  | nil : RpT K J [] []
  | cons {k : List Key} {v : V} {r : List (List Key × V)} {d : D} {es : List (D × D)} : Rp K J v d → RpT K J r es → RpT K J ((k, v) :: r) ((.tuple (k.map keyD), d) :: es)
end

/-- what J tells, J' tells -/
structure Le (J J' : Hp) : Prop where
  rd : ∀ a u, Rd J a u → Rd J' a u
  ls : ∀ a xs, J a = some (.lst xs) → J' a = some (.lst xs)
  ts : ∀ a xs, J a = some (.tup xs) → J' a = some (.tup xs)
theorem Le.refl (J : Hp) : Le J J := ⟨fun _ _ h => h, fun _ _ h => h, fun _ _ h => h⟩
theorem Le.trans {A B C : Hp} (h : Le A B) (g : Le B C) : Le A C := ⟨fun a u x => g.rd a u (h.rd a u x), fun a xs x => g.ls a xs (h.ls a xs x), fun a xs x => g.ts a xs (h.ts a xs x)⟩
def Ex (H H' : Hp) : Prop := ∀ a o, H a = some o → H' a = some o
theorem Ex.refl (H : Hp) : Ex H H := fun _ _ h => h
theorem Ex.trans {A B C : Hp} (h : Ex A B) (g : Ex B C) : Ex A C := fun a u x => g a u (h a u x)
theorem Ex.le {A B : Hp} (h : Ex A B) : Le A B := ⟨fun a u x => x.elim (fun x => .inl (h a u x)) fun ⟨o, x⟩ => .inr ⟨o, h a _ x⟩, fun a xs x => h a _ x, fun a xs x => h a _ x⟩
theorem Ex.new {H : Hp} {p : Addr} {o : HO} (h : H p = none) : Ex H (upd H p o) := fun a u e => by
  rw [upd_ne (ne_of_none e h)]; exact e
theorem Ex.back {H H' : Hp} {p : Addr} (e : Ex H H') (h : H' p = none) : H p = none := by
  cases h1 : H p with
  | none => rfl
  | some o => rw [e p o h1] at h; cases h
theorem Le.sqL {K : PySem.W.Frag} {J J' : Hp} (e : Le J J') {a : Addr} {xs : List V} (h : SqL K J a xs) : SqL K J' a xs := h.elim (fun h => .inl (e.rd _ _ h)) .inr
theorem Le.sqT {K : PySem.W.Frag} {J J' : Hp} (e : Le J J') {a : Addr} {xs : List V} (h : SqT K J a xs) : SqT K J' a xs := h.elim (fun h => .inl (e.rd _ _ h)) .inr

section
variable {K : PySem.W.Frag} {J J' H H' : Hp}
mutual
theorem Rp.le (e : Le J J') : ∀ {v : V} {d : D}, Rp K J v d → Rp K J' v d
  | _, _, .non => .non
  | _, _, .bl b => .bl b
  | _, _, .int i => .int i
  | _, _, .str x => .str x
  | _, _, .lst h r => .lst (e.ls _ _ h) (RpAll.le e r)
  | _, _, .tup h r => .tup (e.ts _ _ h) (RpAll.le e r)
  | _, _, .dk h r => .dk (e.rd _ _ h) (RpK.le e r)
  | _, _, .dt h r => .dt (e.rd _ _ h) (RpT.le e r)
theorem RpAll.le (e : Le J J') : ∀ {v : List V} {d : List D}, RpAll K J v d → RpAll K J' v d
  | _, _, .nil => .nil
  | _, _, .cons h r => .cons (Rp.le e h) (RpAll.le e r)
theorem RpK.le (e : Le J J') : ∀ {v : List (Key × V)} {d : List (D × D)}, RpK K J v d → RpK K J' v d
  | _, _, .nil => .nil
  | _, _, .cons h r => .cons (Rp.le e h) (RpK.le e r)
theorem RpT.le (e : Le J J') : ∀ {v : List (List Key × V)} {d : List (D × D)}, RpT K J v d → RpT K J' v d
  | _, _, .nil => .nil
  | _, _, .cons h r => .cons (Rp.le e h) (RpT.le e r)
end
theorem Rp.ex (e : Ex J J') {v : V} {d : D} (h : Rp K J v d) : Rp K J' v d := h.le e.le
theorem RpAll.ex (e : Ex J J') {v : List V} {d : List D} (h : RpAll K J v d) : RpAll K J' v d := h.le e.le
theorem RpAll.length : ∀ {v : List V} {d : List D}, RpAll K J v d → v.length = d.length
  | _, _, .nil => rfl
  | _, _, .cons _ r => by rw [List.length_cons, List.length_cons, RpAll.length r]
theorem RpAll.get : ∀ {vs : List V} {ds : List D} {i : Nat} {d : D}, RpAll K J vs ds → ds[i]? = some d → ∃ v, vs[i]? = some v ∧ Rp K J v d
  | _, _, _, _, .nil, h => by simp at h
  | _, _, 0, _, .cons h _, e => by simp at e; subst e; exact ⟨_, rfl, h⟩
  | _, _, i + 1, _, .cons _ r, e => by
    obtain ⟨v, h1, h2⟩ := RpAll.get (i := i) r (by simpa using e)
    exact ⟨v, by simpa using h1, h2⟩
theorem RpAll.getV : ∀ {vs : List V} {ds : List D} {i : Nat} {v : V}, RpAll K J vs ds → vs[i]? = some v → ∃ d, ds[i]? = some d ∧ Rp K J v d
  | _, _, _, _, .nil, h => by simp at h
  | _, _, 0, _, .cons h _, e => by simp at e; subst e; exact ⟨_, rfl, h⟩
  | _, _, i + 1, _, .cons _ r, e => by
    obtain ⟨v, h1, h2⟩ := RpAll.getV (i := i) r (by simpa using e)
    exact ⟨v, by simpa using h1, h2⟩
theorem RpAll.append : ∀ {vs ws : List V} {ds es : List D}, RpAll K J vs ds → RpAll K J ws es → RpAll K J (vs ++ ws) (ds ++ es)
  | _, _, _, _, .nil, s => s
  | _, _, _, _, .cons h r, s => .cons h (RpAll.append r s)
theorem RpAll.take : ∀ (n : Nat) {vs : List V} {ds : List D}, RpAll K J vs ds → RpAll K J (vs.take n) (ds.take n)
  | 0, _, _, _ => .nil
  | _ + 1, _, _, .nil => .nil
  | n + 1, _, _, .cons h r => .cons h (RpAll.take n r)
theorem RpAll.drop : ∀ (n : Nat) {vs : List V} {ds : List D}, RpAll K J vs ds → RpAll K J (vs.drop n) (ds.drop n)
  | 0, _, _, h => h
  | _ + 1, _, _, .nil => .nil
  | n + 1, _, _, .cons _ r => RpAll.drop n r
end

/-- the frozen view J of the heap H -/
structure Wf (J H : Hp) : Prop where
  sub : Le J H
  tup : ∀ a xs, H a = some (.tup xs) → J a = some (.tup xs)
  dom : ∀ a, H a = none → J a = none

/- data without a list or dict -/
mutual
def imm : D → Bool
  | .none | .bool _ | .int _ | .str _ => true
  | .tuple ds => immAll ds
  | .list _ | .dict _ => false
def immAll : List D → Bool
  | [] => true
  | d :: ds => imm d && immAll ds
end
section
variable {K : PySem.W.Frag} {J H : Hp}
mutual
theorem Rp.back (w : Wf J H) : ∀ {v : V} {d : D}, Rp K H v d → imm d = true → Rp K J v d
  | _, _, .non, _ => .non
  | _, _, .bl b, _ => .bl b
  | _, _, .int i, _ => .int i
  | _, _, .str x, _ => .str x
  | _, _, .lst h r, e => by simp [imm] at e
  | _, _, .tup h r, e => .tup (w.tup _ _ h) (RpAll.back w r (by simpa [imm] using e))
  | _, _, .dk h r, e => by simp [imm] at e
  | _, _, .dt h r, e => by simp [imm] at e
theorem RpAll.back (w : Wf J H) : ∀ {v : List V} {d : List D}, RpAll K H v d → immAll d = true → RpAll K J v d
  | _, _, .nil, _ => .nil
  | _, _, .cons h r, e => by
    simp only [immAll, Bool.and_eq_true] at e
    exact .cons (Rp.back w h e.1) (RpAll.back w r e.2)
end
end
theorem Wf.self (H : Hp) : Wf H H := ⟨.refl H, fun _ _ h => h, fun _ h => h⟩

/-- new things alone: the view and the heap grow -/
structure Nw (J H J' H' : Hp) : Prop where
  j : Ex J J'
  h : Ex H H'
  wf : Wf J' H'
  fr : ∀ a, J a = none → H a ≠ none → J' a = none
theorem Nw.refl {J H : Hp} (w : Wf J H) : Nw J H J H := ⟨.refl J, .refl H, w, fun _ h _ => h⟩
theorem Nw.trans {J H J1 H1 J2 H2 : Hp} (a : Nw J H J1 H1) (b : Nw J1 H1 J2 H2) : Nw J H J2 H2 where
  j := a.j.trans b.j
  h := a.h.trans b.h
  wf := b.wf
  fr := fun x h1 h2 => b.fr x (a.fr x h1 h2) fun h3 => h2 (a.h.back h3)
/-- one new thing, in the view too -/
theorem Nw.new {J H : Hp} {p : Addr} {o : HO} (w : Wf J H) (hp : H p = none) : Nw J H (upd J p o) (upd H p o) where
  j := .new (w.dom p hp)
  h := .new hp
  fr := fun x h1 h2 => by
    by_cases e : x = p
    · subst e; exact absurd hp h2
    · rw [upd_ne e]; exact h1
  wf := by
    refine ⟨⟨fun a u h => ?_, fun a xs h => ?_, fun a xs h => ?_⟩, fun a xs h => ?_, fun a h => ?_⟩
    · by_cases e : a = p
      · subst e
        unfold Rd at h ⊢
        rw [upd_same] at h ⊢
        exact h
      · unfold Rd at h ⊢
        rw [upd_ne e] at h ⊢
        exact w.sub.rd a u h
    · by_cases e : a = p
      · subst e
        rw [upd_same] at h ⊢
        exact h
      · rw [upd_ne e] at h ⊢
        exact w.sub.ls a xs h
    · by_cases e : a = p
      · subst e
        rw [upd_same] at h ⊢
        exact h
      · rw [upd_ne e] at h ⊢
        exact w.sub.ts a xs h
    · by_cases e : a = p
      · subst e
        rw [upd_same] at h ⊢
        exact h
      · rw [upd_ne e] at h ⊢
        exact w.tup a xs h
    · by_cases e : a = p
      · subst e; rw [upd_same] at h; cases h
      · rw [upd_ne e] at h ⊢; exact w.dom a h

/-! ### owned data -/
inductive Sh where
  | fz | l (s : Sh) | dk (s : Sh) | dt (s : Sh) | pen
  deriving DecidableEq
inductive All3 (R : V → D → List Addr → Prop) : List V → List D → List Addr → Prop
  | nil : All3 R [] [] []
  | cons {v : V} {d : D} {F : List Addr} {vs : List V} {ds : List D} {G : List Addr} : R v d F → All3 R vs ds G → All3 R (v :: vs) (d :: ds) (F ++ G)
inductive All3K (R : V → D → List Addr → Prop) : List (Key × V) → List (D × D) → List Addr → Prop
  | nil : All3K R [] [] []
  | cons {k : Key} {v : V} {d : D} {F : List Addr} {vs : List (Key × V)} {ds : List (D × D)} {G : List Addr} : R v d F → All3K R vs ds G → All3K R ((k, v) :: vs) ((keyD k, d) :: ds) (F ++ G)
inductive All3T (R : V → D → List Addr → Prop) : List (List Key × V) → List (D × D) → List Addr → Prop
  | nil : All3T R [] [] []
  | cons {k : List Key} {v : V} {d : D} {F : List Addr} {vs : List (List Key × V)} {ds : List (D × D)} {G : List Addr} : R v d F → All3T R vs ds G → All3T R ((k, v) :: vs) ((.tuple (k.map keyD), d) :: ds) (F ++ G)
/-- v stands for d, its lists and dicts (by the shape) at the addresses F, outside of the view -/
def Ow (K : PySem.W.Frag) (J H : Hp) : Sh → V → D → List Addr → Prop
  | .fz => fun v d F => Rp K J v d ∧ F = []
  | .l s => fun v d F => ∃ a xs ds G, v = .ref a ∧ d = .list ds ∧ H a = some (.lst xs) ∧ J a = none ∧ All3 (Ow K J H s) xs ds G ∧ F = a :: G
  | .dk s => fun v d F => ∃ a xs ds G, v = .ref a ∧ d = .dict ds ∧ H a = some (.dK xs) ∧ J a = none ∧ All3K (Ow K J H s) xs ds G ∧ F = a :: G
  | .dt s => fun v d F => ∃ a xs ds G, v = .ref a ∧ d = .dict ds ∧ H a = some (.dT xs) ∧ J a = none ∧ All3T (Ow K J H s) xs ds G ∧ F = a :: G
  | .pen => fun v d F => ∃ (a c : Addr) (ns : List Int) (i n : Int), v = .ref a ∧ d = .list [.list (ns.map .int), .int i, .int n] ∧ H a = some (.lst [.ref c, .int i, .int n]) ∧ H c = some (.lst (ns.map .int)) ∧ J a = none ∧ J c = none ∧ F = [a, c]

section
variable {K : PySem.W.Frag} {J J' H H' : Hp}
theorem All3.imp {R R' : V → D → List Addr → Prop} : ∀ {vs : List V} {ds : List D} {G : List Addr}, All3 R vs ds G → (∀ v d F, (∀ a ∈ F, a ∈ G) → R v d F → R' v d F) → All3 R' vs ds G
  | _, _, _, .nil, _ => .nil
  | _, _, _, .cons h r, f => .cons (f _ _ _ (fun a ha => List.mem_append_left _ ha) h) (All3.imp r fun v d F hF => f v d F fun a ha => List.mem_append_right _ (hF a ha))
theorem All3K.imp {R R' : V → D → List Addr → Prop} : ∀ {vs : List (Key × V)} {ds : List (D × D)} {G : List Addr}, All3K R vs ds G → (∀ v d F, (∀ a ∈ F, a ∈ G) → R v d F → R' v d F) → All3K R' vs ds G
  | _, _, _, .nil, _ => .nil
  | _, _, _, .cons h r, f => .cons (f _ _ _ (fun a ha => List.mem_append_left _ ha) h) (All3K.imp r fun v d F hF => f v d F fun a ha => List.mem_append_right _ (hF a ha))
theorem All3T.imp {R R' : V → D → List Addr → Prop} : ∀ {vs : List (List Key × V)} {ds : List (D × D)} {G : List Addr}, All3T R vs ds G → (∀ v d F, (∀ a ∈ F, a ∈ G) → R v d F → R' v d F) → All3T R' vs ds G
  | _, _, _, .nil, _ => .nil
  | _, _, _, .cons h r, f => .cons (f _ _ _ (fun a ha => List.mem_append_left _ ha) h) (All3T.imp r fun v d F hF => f v d F fun a ha => List.mem_append_right _ (hF a ha))
theorem All3.mem {R : V → D → List Addr → Prop} {P : Addr → Prop} : ∀ {vs : List V} {ds : List D} {G : List Addr}, All3 R vs ds G → (∀ v d F, R v d F → ∀ a ∈ F, P a) → ∀ a ∈ G, P a
  | _, _, _, .nil, _, a, ha => by cases ha
  | _, _, _, .cons h r, f, a, ha => (List.mem_append.mp ha).elim (f _ _ _ h a) (All3.mem r f a)
theorem All3K.mem {R : V → D → List Addr → Prop} {P : Addr → Prop} : ∀ {vs : List (Key × V)} {ds : List (D × D)} {G : List Addr}, All3K R vs ds G → (∀ v d F, R v d F → ∀ a ∈ F, P a) → ∀ a ∈ G, P a
  | _, _, _, .nil, _, a, ha => by cases ha
  | _, _, _, .cons h r, f, a, ha => (List.mem_append.mp ha).elim (f _ _ _ h a) (All3K.mem r f a)
theorem All3T.mem {R : V → D → List Addr → Prop} {P : Addr → Prop} : ∀ {vs : List (List Key × V)} {ds : List (D × D)} {G : List Addr}, All3T R vs ds G → (∀ v d F, R v d F → ∀ a ∈ F, P a) → ∀ a ∈ G, P a
  | _, _, _, .nil, _, a, ha => by cases ha
  | _, _, _, .cons h r, f, a, ha => (List.mem_append.mp ha).elim (f _ _ _ h a) (All3T.mem r f a)

theorem Ow.mono (e : Ex J J') : ∀ {s : Sh} {v : V} {d : D} {F : List Addr}, (∀ a ∈ F, H' a = H a) → (∀ a ∈ F, J' a = none) → Ow K J H s v d F → Ow K J' H' s v d F
  | .fz, _, _, _, _, _, h => ⟨h.1.ex e, h.2⟩
  | .l s, _, _, _, k, n, ⟨a, xs, ds, G, h1, h2, h3, h4, h5, h6⟩ => by
    subst h6
    exact ⟨a, xs, ds, G, h1, h2, (k a List.mem_cons_self).trans h3, n a List.mem_cons_self, h5.imp fun v d F hF => Ow.mono e (fun b hb => k b (List.mem_cons_of_mem _ (hF b hb))) (fun b hb => n b (List.mem_cons_of_mem _ (hF b hb))), rfl⟩
  | .dk s, _, _, _, k, n, ⟨a, xs, ds, G, h1, h2, h3, h4, h5, h6⟩ => by
    subst h6
    exact ⟨a, xs, ds, G, h1, h2, (k a List.mem_cons_self).trans h3, n a List.mem_cons_self, h5.imp fun v d F hF => Ow.mono e (fun b hb => k b (List.mem_cons_of_mem _ (hF b hb))) (fun b hb => n b (List.mem_cons_of_mem _ (hF b hb))), rfl⟩
  | .dt s, _, _, _, k, n, ⟨a, xs, ds, G, h1, h2, h3, h4, h5, h6⟩ => by
    subst h6
    exact ⟨a, xs, ds, G, h1, h2, (k a List.mem_cons_self).trans h3, n a List.mem_cons_self, h5.imp fun v d F hF => Ow.mono e (fun b hb => k b (List.mem_cons_of_mem _ (hF b hb))) (fun b hb => n b (List.mem_cons_of_mem _ (hF b hb))), rfl⟩
  | .pen, _, _, _, k, n, ⟨a, c, ns, i, m, h1, h2, h3, h4, h5, h6, h7⟩ => by
    subst h7
    exact ⟨a, c, ns, i, m, h1, h2, (k a (by simp)).trans h3, (k c (by simp)).trans h4, n a (by simp), n c (by simp), rfl⟩
/-- what may stand at an owned address -/
def Own1 : HO → Prop
  | .lst _ | .dK _ | .dT _ => True
  | _ => False
theorem Ow.at : ∀ {s : Sh} {v : V} {d : D} {F : List Addr}, Ow K J H s v d F → ∀ a ∈ F, J a = none ∧ ∃ o, H a = some o ∧ Own1 o
  | .fz, _, _, _, h, a, ha => by rw [h.2] at ha; cases ha
  | .l s, _, _, _, ⟨a, xs, ds, G, h1, h2, h3, h4, h5, h6⟩, b, hb => by
    subst h6
    rcases List.mem_cons.mp hb with rfl | hb
    · exact ⟨h4, _, h3, trivial⟩
    · exact h5.mem (fun v d F h => Ow.at h) b hb
  | .dk s, _, _, _, ⟨a, xs, ds, G, h1, h2, h3, h4, h5, h6⟩, b, hb => by
    subst h6
    rcases List.mem_cons.mp hb with rfl | hb
    · exact ⟨h4, _, h3, trivial⟩
    · exact h5.mem (fun v d F h => Ow.at h) b hb
  | .dt s, _, _, _, ⟨a, xs, ds, G, h1, h2, h3, h4, h5, h6⟩, b, hb => by
    subst h6
    rcases List.mem_cons.mp hb with rfl | hb
    · exact ⟨h4, _, h3, trivial⟩
    · exact h5.mem (fun v d F h => Ow.at h) b hb
  | .pen, _, _, _, ⟨a, c, ns, i, m, h1, h2, h3, h4, h5, h6, h7⟩, b, hb => by
    subst h7
    simp only [List.mem_cons, List.not_mem_nil, or_false] at hb
    rcases hb with rfl | rfl
    · exact ⟨h5, _, h3, trivial⟩
    · exact ⟨h6, _, h4, trivial⟩
theorem All3.all {R : V → D → List Addr → Prop} : ∀ {vs : List V} {ds : List D} {G : List Addr}, All3 R vs ds G → (∀ v d F, (∀ a ∈ F, a ∈ G) → R v d F → Rp K J v d) → RpAll K J vs ds
  | _, _, _, .nil, _ => .nil
  | _, _, _, .cons h r, f => .cons (f _ _ _ (fun a ha => List.mem_append_left _ ha) h) (All3.all r fun v d F hF => f v d F fun a ha => List.mem_append_right _ (hF a ha))
theorem All3K.all {R : V → D → List Addr → Prop} : ∀ {vs : List (Key × V)} {ds : List (D × D)} {G : List Addr}, All3K R vs ds G → (∀ v d F, (∀ a ∈ F, a ∈ G) → R v d F → Rp K J v d) → RpK K J vs ds
  | _, _, _, .nil, _ => .nil
  | _, _, _, .cons h r, f => .cons (f _ _ _ (fun a ha => List.mem_append_left _ ha) h) (All3K.all r fun v d F hF => f v d F fun a ha => List.mem_append_right _ (hF a ha))
theorem All3T.all {R : V → D → List Addr → Prop} : ∀ {vs : List (List Key × V)} {ds : List (D × D)} {G : List Addr}, All3T R vs ds G → (∀ v d F, (∀ a ∈ F, a ∈ G) → R v d F → Rp K J v d) → RpT K J vs ds
  | _, _, _, .nil, _ => .nil
  | _, _, _, .cons h r, f => .cons (f _ _ _ (fun a ha => List.mem_append_left _ ha) h) (All3T.all r fun v d F hF => f v d F fun a ha => List.mem_append_right _ (hF a ha))
theorem rpInts (J : Hp) : ∀ ns : List Int, RpAll K J (ns.map V.int) (ns.map PyData.int)
  | [] => .nil
  | n :: ns => .cons (.int n) (rpInts J ns)
/-- owned data read in a view that has its objects -/
theorem Ow.rp (e : Le J J') : ∀ {s : Sh} {v : V} {d : D} {F : List Addr}, (∀ a ∈ F, J' a = H a) → Ow K J H s v d F → Rp K J' v d
  | .fz, _, _, _, _, h => h.1.le e
  | .l s, _, _, _, k, ⟨a, xs, ds, G, h1, h2, h3, h4, h5, h6⟩ => by
    subst h6 h1 h2
    exact .lst ((k a List.mem_cons_self).trans h3) (h5.all fun v d F hF => Ow.rp e (fun b hb => k b (List.mem_cons_of_mem _ (hF b hb))))
  | .dk s, _, _, _, k, ⟨a, xs, ds, G, h1, h2, h3, h4, h5, h6⟩ => by
    subst h6 h1 h2
    exact .dk (.inl ((k a List.mem_cons_self).trans h3)) (h5.all fun v d F hF => Ow.rp e (fun b hb => k b (List.mem_cons_of_mem _ (hF b hb))))
  | .dt s, _, _, _, k, ⟨a, xs, ds, G, h1, h2, h3, h4, h5, h6⟩ => by
    subst h6 h1 h2
    exact .dt (.inl ((k a List.mem_cons_self).trans h3)) (h5.all fun v d F hF => Ow.rp e (fun b hb => k b (List.mem_cons_of_mem _ (hF b hb))))
  | .pen, _, _, _, k, ⟨a, c, ns, i, m, h1, h2, h3, h4, h5, h6, h7⟩ => by
    subst h7 h1 h2
    exact .lst ((k a (by simp)).trans h3) (.cons (.lst ((k c (by simp)).trans h4) (rpInts _ ns)) (.cons (.int i) (.cons (.int m) .nil)))
theorem Ow.read (w : Wf J H) {s : Sh} {v : V} {d : D} {F : List Addr} (h : Ow K J H s v d F) : Rp K H v d := Ow.rp w.sub (fun _ _ => rfl) h
end

/-! ### the slots -/
inductive Cell where
  | un | fz (d : D) | ow (s : Sh) (d : D)
inductive St (K : PySem.W.Frag) (J H : Hp) : List Cell → L2.St → List Addr → Prop
  | nil : St K J H [] [] []
  | un {o : Option V} {cs : List Cell} {σ : L2.St} {G : List Addr} : St K J H cs σ G → St K J H (.un :: cs) (o :: σ) G
  | fz {v : V} {d : D} {cs : List Cell} {σ : L2.St} {G : List Addr} : Rp K J v d → St K J H cs σ G → St K J H (.fz d :: cs) (some v :: σ) G
  | ow {v : V} {s : Sh} {d : D} {F : List Addr} {cs : List Cell} {σ : L2.St} {G : List Addr} : Ow K J H s v d F → St K J H cs σ G → St K J H (.ow s d :: cs) (some v :: σ) (F ++ G)
/-- an entry: its view, its heap, what may be changed -/
structure Ent where
  J : Hp
  H : Hp
  F : List Addr
/-- the state behind an entry -/
structure Sta (K : PySem.W.Frag) (en : Ent) (cs : List Cell) (σ : L2.St) (J H : Hp) : Prop where
  wf : Wf J H
  fr : ∀ a o, en.H a = some o → a ∉ en.F → H a = some o
  th : ∀ a, H a = none → en.H a = none
  vw : ∀ a, en.H a ≠ none → a ∉ en.F → en.J a = none → J a = none
  ex : ∃ G, St K J H cs σ G ∧ G.Nodup ∧ ∀ a ∈ G, a ∈ en.F ∨ en.H a = none

section
variable {K : PySem.W.Frag} {J J' H H' : Hp} {en : Ent} {cs cs' : List Cell} {σ : L2.St}
theorem St.mono (e : Ex J J') : ∀ {cs : List Cell} {σ : L2.St} {G : List Addr}, (∀ a ∈ G, H' a = H a) → (∀ a ∈ G, J' a = none) → St K J H cs σ G → St K J' H' cs σ G
  | _, _, _, _, _, .nil => .nil
  | _, _, _, k, n, .un h => .un (St.mono e k n h)
  | _, _, _, k, n, .fz r h => .fz (r.ex e) (St.mono e k n h)
  | _, _, _, k, n, .ow r h => .ow (r.mono e (fun a ha => k a (List.mem_append_left _ ha)) (fun a ha => n a (List.mem_append_left _ ha))) (St.mono e (fun a ha => k a (List.mem_append_right _ ha)) (fun a ha => n a (List.mem_append_right _ ha)) h)
theorem St.at : ∀ {cs : List Cell} {σ : L2.St} {G : List Addr}, St K J H cs σ G → ∀ a ∈ G, J a = none ∧ ∃ o, H a = some o ∧ Own1 o
  | _, _, _, .nil, a, ha => by cases ha
  | _, _, _, .un h, a, ha => St.at h a ha
  | _, _, _, .fz _ h, a, ha => St.at h a ha
  | _, _, _, .ow r h, a, ha => (List.mem_append.mp ha).elim (r.at a) (St.at h a)
theorem St.len : ∀ {cs : List Cell} {σ : L2.St} {G : List Addr}, St K J H cs σ G → cs.length = σ.length
  | _, _, _, .nil => rfl
  | _, _, _, .un h => by rw [List.length_cons, List.length_cons, St.len h]
  | _, _, _, .fz _ h => by rw [List.length_cons, List.length_cons, St.len h]
  | _, _, _, .ow _ h => by rw [List.length_cons, List.length_cons, St.len h]
theorem St.getFz : ∀ {cs : List Cell} {σ : L2.St} {G : List Addr} {i : Nat} {d : D}, St K J H cs σ G → cs[i]? = some (.fz d) → ∃ v, σ[i]? = some (some v) ∧ Rp K J v d
  | _, _, _, _, _, .nil, e => by simp at e
  | _, _, _, 0, _, .un h, e => by simp at e
  | _, _, _, 0, _, .fz r h, e => by simp at e; subst e; exact ⟨_, rfl, r⟩
  | _, _, _, 0, _, .ow r h, e => by simp at e
  | _, _, _, i + 1, _, .un h, e => by simpa using St.getFz (i := i) h (by simpa using e)
  | _, _, _, i + 1, _, .fz _ h, e => by simpa using St.getFz (i := i) h (by simpa using e)
  | _, _, _, i + 1, _, .ow _ h, e => by simpa using St.getFz (i := i) h (by simpa using e)
/-- an owned cell taken out -/
theorem St.takeOw : ∀ {cs : List Cell} {σ : L2.St} {G : List Addr} {i : Nat} {s : Sh} {d : D}, St K J H cs σ G → cs[i]? = some (.ow s d) →
    ∃ v F G', σ[i]? = some (some v) ∧ Ow K J H s v d F ∧ St K J H (cs.set i .un) σ G' ∧ G.Perm (F ++ G')
  | _, _, _, _, _, _, .nil, e => by simp at e
  | _, _, _, 0, _, _, .un h, e => by simp at e
  | _, _, _, 0, _, _, .fz r h, e => by simp at e
  | _, _, _, 0, _, _, .ow r h, e => by
    simp at e
    obtain ⟨rfl, rfl⟩ := e
    exact ⟨_, _, _, rfl, r, .un h, .refl _⟩
  | _, _, _, i + 1, _, _, .un h, e => by
    obtain ⟨v, F, G', h1, h2, h3, h4⟩ := St.takeOw (i := i) h (by simpa using e)
    exact ⟨v, F, G', by simpa using h1, h2, .un h3, h4⟩
  | _, _, _, i + 1, _, _, .fz r h, e => by
    obtain ⟨v, F, G', h1, h2, h3, h4⟩ := St.takeOw (i := i) h (by simpa using e)
    exact ⟨v, F, G', by simpa using h1, h2, .fz r h3, h4⟩
  | _, _, _, i + 1, _, _, .ow (F := F1) (G := G1) r h, e => by
    obtain ⟨v, F, G', h1, h2, h3, h4⟩ := St.takeOw (i := i) h (by simpa using e)
    refine ⟨v, F, F1 ++ G', by simpa using h1, h2, .ow r h3, ?_⟩
    refine (List.Perm.append_left F1 h4).trans ?_
    rw [← List.append_assoc, ← List.append_assoc]
    exact List.Perm.append_right G' List.perm_append_comm
/-- a cell laid into a slot that holds nothing, the slot's value given -/
theorem St.putOw : ∀ {cs : List Cell} {σ : L2.St} {G : List Addr} {i : Nat} {s : Sh} {d : D} {v : V} {F : List Addr}, St K J H cs σ G → cs[i]? = some .un → Ow K J H s v d F →
    ∃ G', St K J H (cs.set i (.ow s d)) (σ.set i (some v)) G' ∧ G'.Perm (F ++ G)
  | _, _, _, _, _, _, _, _, .nil, e, _ => by simp at e
  | _, _, _, 0, _, _, _, _, .un h, e, r => ⟨_, .ow r h, .refl _⟩
  | _, _, _, 0, _, _, _, _, .fz _ h, e, r => by simp at e
  | _, _, _, 0, _, _, _, _, .ow _ h, e, r => by simp at e
  | _, _, _, i + 1, _, _, _, _, .un h, e, r => by
    obtain ⟨G', h1, h2⟩ := St.putOw (i := i) h (by simpa using e) r
    exact ⟨G', .un h1, h2⟩
  | _, _, _, i + 1, _, _, _, _, .fz q h, e, r => by
    obtain ⟨G', h1, h2⟩ := St.putOw (i := i) h (by simpa using e) r
    exact ⟨G', .fz q h1, h2⟩
  | _, _, _, i + 1, _, _, _, F, .ow (F := F1) (G := G1) q h, e, r => by
    obtain ⟨G', h1, h2⟩ := St.putOw (i := i) h (by simpa using e) r
    refine ⟨F1 ++ G', .ow q h1, (List.Perm.append_left F1 h2).trans ?_⟩
    rw [← List.append_assoc, ← List.append_assoc]
    exact List.Perm.append_right G1 List.perm_append_comm
/-- a slot forgotten -/
theorem St.wipe : ∀ {cs : List Cell} {σ : L2.St} {G : List Addr} (i : Nat) (o : Option V), St K J H cs σ G → ∃ G', St K J H (cs.set i .un) (σ.set i o) G' ∧ G'.Sublist G
  | _, _, _, _, _, .nil => ⟨_, .nil, .refl _⟩
  | _, _, _, 0, o, .un h => ⟨_, .un h, .refl _⟩
  | _, _, _, 0, o, .fz _ h => ⟨_, .un h, .refl _⟩
  | _, _, _, 0, o, .ow _ h => ⟨_, .un h, List.sublist_append_right _ _⟩
  | _, _, _, i + 1, o, .un h => let ⟨G', h1, h2⟩ := St.wipe i o h; ⟨G', .un h1, h2⟩
  | _, _, _, i + 1, o, .fz r h => let ⟨G', h1, h2⟩ := St.wipe i o h; ⟨G', .fz r h1, h2⟩
  | _, _, _, i + 1, o, .ow r h => let ⟨G', h1, h2⟩ := St.wipe i o h; ⟨_, .ow r h1, List.Sublist.append (.refl _) h2⟩
theorem St.putFz : ∀ {cs : List Cell} {σ : L2.St} {G : List Addr} {i : Nat} {d : D} {v : V}, St K J H cs σ G → cs[i]? = some .un → Rp K J v d → St K J H (cs.set i (.fz d)) (σ.set i (some v)) G
  | _, _, _, _, _, _, .nil, e, _ => by simp at e
  | _, _, _, 0, _, _, .un h, e, r => .fz r h
  | _, _, _, 0, _, _, .fz _ h, e, r => by simp at e
  | _, _, _, 0, _, _, .ow _ h, e, r => by simp at e
  | _, _, _, i + 1, _, _, .un h, e, r => .un (St.putFz (i := i) h (by simpa using e) r)
  | _, _, _, i + 1, _, _, .fz q h, e, r => .fz q (St.putFz (i := i) h (by simpa using e) r)
  | _, _, _, i + 1, _, _, .ow q h, e, r => .ow q (St.putFz (i := i) h (by simpa using e) r)
end
end Mi

/-! Mi2: the state under growth and change; mirrors of expressions (M) and what ties them to readings (E, EX); families of contexts (Fm). -/
namespace Mi
open PySem PySem.Spec PyProof.Rows L2

section
variable {K : PySem.W.Frag} {J J' H H' : Hp} {en : Ent} {cs cs' : List Cell} {σ : L2.St} {c : Cell} {o : Option V} {v : V} {d : D}
theorem Nw.keepOwn (n : Nw J H J' H') {G : List Addr} (h : ∀ a ∈ G, J a = none ∧ ∃ o, H a = some o ∧ Own1 o) : (∀ a ∈ G, H' a = H a) ∧ ∀ a ∈ G, J' a = none :=
  ⟨fun a ha => by obtain ⟨_, o, e, _⟩ := h a ha; rw [e, n.h a o e], fun a ha => by
    obtain ⟨h1, o, e, _⟩ := h a ha
    exact n.fr a h1 (by rw [e]; exact fun z => nomatch z)⟩
theorem Sta.nw (s : Sta K en cs σ J H) (n : Nw J H J' H') : Sta K en cs σ J' H' := by
  obtain ⟨w, f, th, vw, G, h1, h2, h3⟩ := s
  obtain ⟨k1, k2⟩ := n.keepOwn h1.at
  exact ⟨n.wf, fun a o e hn => n.h a o (f a o e hn), fun a e => th a (n.h.back e), fun a e hn hj => n.fr a (vw a e hn hj) fun z => e (th a z), G, h1.mono n.j k1 k2, h2, h3⟩
theorem Sta.pushFz (s : Sta K en cs σ J H) (r : Rp K J v d) : Sta K en (.fz d :: cs) (some v :: σ) J H := by
  obtain ⟨w, f, th, vw, G, h1, h2, h3⟩ := s
  exact ⟨w, f, th, vw, G, .fz r h1, h2, h3⟩
theorem Sta.pushUn (s : Sta K en cs σ J H) : Sta K en (.un :: cs) (o :: σ) J H := by
  obtain ⟨w, f, th, vw, G, h1, h2, h3⟩ := s
  exact ⟨w, f, th, vw, G, .un h1, h2, h3⟩
theorem Sta.headFz (s : Sta K en (.fz d :: cs) (some v :: σ) J H) : Rp K J v d := by
  obtain ⟨w, f, th, vw, G, h1, h2, h3⟩ := s
  cases h1 with
  | fz r _ => exact r
theorem Sta.pop (s : Sta K en (c :: cs) (o :: σ) J H) : Sta K en cs σ J H := by
  obtain ⟨w, f, th, vw, G, h1, h2, h3⟩ := s
  cases h1 with
  | un h => exact ⟨w, f, th, vw, _, h, h2, h3⟩
  | fz _ h => exact ⟨w, f, th, vw, _, h, h2, h3⟩
  | ow _ h => exact ⟨w, f, th, vw, _, h, (List.nodup_append.mp h2).2.1, fun a ha => h3 a (List.mem_append_right _ ha)⟩
theorem Sta.len (s : Sta K en cs σ J H) : cs.length = σ.length := let ⟨_, _, _, _, _, h, _, _⟩ := s; h.len
theorem Sta.getFz {i : Nat} (s : Sta K en cs σ J H) (e : cs[i]? = some (.fz d)) : ∃ v, σ[i]? = some (some v) ∧ Rp K J v d := let ⟨_, _, _, _, _, h, _, _⟩ := s; h.getFz e
theorem Sta.wipe (s : Sta K en cs σ J H) (i : Nat) (o : Option V) : Sta K en (cs.set i .un) (σ.set i o) J H := by
  obtain ⟨w, f, th, vw, G, h1, h2, h3⟩ := s
  obtain ⟨G', q1, q2⟩ := h1.wipe i o
  exact ⟨w, f, th, vw, G', q1, h2.sublist q2, fun a ha => h3 a (q2.subset ha)⟩
theorem list_set_self {α : Type} : ∀ (l : List α) (i : Nat) (x : α), l[i]? = some x → l.set i x = l
  | [], _, _, h => by simp at h
  | _ :: _, 0, _, h => by simp at h; subst h; rfl
  | a :: l, i + 1, x, h => by
    show a :: l.set i x = a :: l
    rw [list_set_self l i x (by simpa using h)]
/-- the slots as they are, one no longer told -/
theorem Sta.forget (s : Sta K en cs σ J H) (i : Nat) : Sta K en (cs.set i .un) σ J H := by
  by_cases hi : i < σ.length
  · have q := s.wipe i σ[i]
    rw [list_set_self σ i _ (List.getElem?_eq_getElem hi)] at q
    exact q
  · have hl := s.len
    rw [List.set_eq_of_length_le (by omega)]
    exact s
/-- frozen data stored at a name -/
theorem Sta.setFz {i : Nat} (s : Sta K en (.fz d :: cs) (some v :: σ) J H) (hi : i < cs.length) : Sta K en (cs.set i (.fz d)) (σ.set i (some v)) J H := by
  have r := s.headFz
  obtain ⟨w, f, th, vw, G, h1, h2, h3⟩ := s.pop.wipe i none
  have q := h1.putFz (i := i) (d := d) (v := v) (by rw [List.getElem?_set_self hi]) r
  rw [List.set_set, List.set_set] at q
  exact ⟨w, f, th, vw, G, q, h2, h3⟩
theorem Sta.setOw {i : Nat} {s : Sh} (st : Sta K en (.ow s d :: cs) (some v :: σ) J H) (hi : i < cs.length) : Sta K en (cs.set i (.ow s d)) (σ.set i (some v)) J H := by
  obtain ⟨w, f, th, vw, G, h1, h2, h3⟩ := st
  cases h1 with
  | @ow _ _ _ F _ _ G r h =>
    obtain ⟨G', q1, q2⟩ := h.wipe i none
    obtain ⟨G'', q3, q4⟩ := q1.putOw (i := i) (by rw [List.getElem?_set_self hi]) r
    rw [List.set_set, List.set_set] at q3
    have sub : (F ++ G').Sublist (F ++ G) := List.Sublist.append (.refl _) q2
    exact ⟨w, f, th, vw, G'', q3, q4.nodup_iff.mpr (h2.sublist sub), fun a ha => h3 a (sub.subset (q4.mem_iff.mp ha))⟩
theorem Sta.setUn {i : Nat} (s : Sta K en (.un :: cs) (some v :: σ) J H) : Sta K en (cs.set i .un) (σ.set i (some v)) J H := s.pop.wipe i _
theorem Sta.set {i : Nat} (s : Sta K en (c :: cs) (some v :: σ) J H) (hi : i < cs.length) : Sta K en (cs.set i c) (σ.set i (some v)) J H := by
  cases c with
  | un => exact s.setUn
  | fz d => exact s.setFz hi
  | ow sh d => exact s.setOw hi
/-- an owned name's value moved out -/
theorem Sta.move {i : Nat} {s : Sh} (st : Sta K en cs σ J H) (e : cs[i]? = some (.ow s d)) : ∃ v, σ[i]? = some (some v) ∧ Sta K en (.ow s d :: cs.set i .un) (some v :: σ) J H := by
  obtain ⟨w, f, th, vw, G, h1, h2, h3⟩ := st
  obtain ⟨v, F, G', q1, q2, q3, q4⟩ := h1.takeOw e
  exact ⟨v, q1, w, f, th, vw, F ++ G', .ow q2 q3, q4.nodup_iff.mp h2, fun a ha => h3 a (q4.mem_iff.mpr ha)⟩
/-- owned data frozen: the view takes its objects in -/
theorem Sta.freeze {s : Sh} (st : Sta K en (.ow s d :: cs) (some v :: σ) J H) : ∃ J', Ex J J' ∧ Sta K en (.fz d :: cs) (some v :: σ) J' H := by
  obtain ⟨w, f, th, vw, G, h1, h2, h3⟩ := st
  cases h1 with
  | @ow _ _ _ F _ _ G r h =>
    obtain ⟨n1, n2, n3⟩ := List.nodup_append.mp h2
    have ex : Ex J (fun a => if a ∈ F then H a else J a) := fun a u e => by
      by_cases ha : a ∈ F
      · rw [(r.at a ha).1] at e; cases e
      · exact (if_neg ha).trans e
    refine ⟨fun a => if a ∈ F then H a else J a, ex, ⟨⟨fun a u e => ?_, fun a xs e => ?_, fun a xs e => ?_⟩, fun a xs e => ?_, fun a e => ?_⟩, f, th, fun a e hn hj => ?_, G, ?_, n2, fun a ha => h3 a (List.mem_append_right _ ha)⟩
    · by_cases ha : a ∈ F
      · rcases e with e | ⟨o, e⟩
        · exact .inl ((if_pos ha).symm.trans e)
        · exact .inr ⟨o, (if_pos ha).symm.trans e⟩
      · refine w.sub.rd a u ?_
        rcases e with e | ⟨o, e⟩
        · exact .inl ((if_neg ha).symm.trans e)
        · exact .inr ⟨o, (if_neg ha).symm.trans e⟩
    · by_cases ha : a ∈ F
      · exact (if_pos ha).symm.trans e
      · exact w.sub.ls a xs ((if_neg ha).symm.trans e)
    · by_cases ha : a ∈ F
      · exact (if_pos ha).symm.trans e
      · exact w.sub.ts a xs ((if_neg ha).symm.trans e)
    · exact ex a _ (w.tup a xs e)
    · by_cases ha : a ∈ F
      · exact (if_pos ha).trans e
      · exact (if_neg ha).trans (w.dom a e)
    · refine (if_neg fun ha => ?_).trans (vw a e hn hj)
      rcases h3 a (List.mem_append_left _ ha) with q | q
      · exact hn q
      · exact e q
    · refine .fz (r.rp ex.le fun a ha => if_pos ha) (h.mono ex (fun _ _ => rfl) fun a ha => ?_)
      have hn : a ∉ F := fun q => n3 a q a ha rfl
      exact (if_neg hn).trans (h.at a ha).1
/-- the whole of the heap as the view: every cell frozen -/
def frz : List Cell → List Cell
  | [] => []
  | .ow _ d :: cs => .fz d :: frz cs
  | c :: cs => c :: frz cs
theorem St.frzAll (w : Wf J H) : ∀ {cs : List Cell} {σ : L2.St} {G : List Addr}, St K J H cs σ G → St K H H (frz cs) σ []
  | _, _, _, .nil => .nil
  | _, _, _, .un h => .un (St.frzAll w h)
  | _, _, _, .fz r h => .fz (r.le w.sub) (St.frzAll w h)
  | _, _, _, .ow r h => .fz (r.read w) (St.frzAll w h)
theorem Sta.frzAll (s : Sta K en cs σ J H) : Sta K ⟨H, H, []⟩ (frz cs) σ H H := by
  obtain ⟨w, f, th, vw, G, h1, h2, h3⟩ := s
  exact ⟨.self H, fun a o e _ => e, fun _ e => e, fun _ _ _ e => e, [], h1.frzAll w, List.nodup_nil, fun a ha => by cases ha⟩
end

open Classical in
/-- what is new behind a walk with the whole heap as its view, over the view J -/
theorem Nw.view {J H J' H' : Hp} (w : Wf J H) (n : Nw H H J' H') : Nw J H (fun a => if H a = none then J' a else J a) H' := by
  have yes : ∀ a, H a = none → (fun a => if H a = none then J' a else J a) a = J' a := fun a h => if_pos h
  have no : ∀ a, H a ≠ none → (fun a => if H a = none then J' a else J a) a = J a := fun a h => if_neg h
  have ex : Ex J (fun a => if H a = none then J' a else J a) := fun a u e => by
    rw [no a fun z => by rw [w.dom a z] at e; cases e]
    exact e
  refine ⟨ex, n.h, ⟨⟨fun a u e => ?_, fun a xs e => ?_, fun a xs e => ?_⟩, fun a xs e => ?_, fun a e => ?_⟩, fun a h1 h2 => (no a h2).trans h1⟩
  · by_cases h : H a = none
    · refine n.wf.sub.rd a u ?_
      unfold Rd at e ⊢
      rw [yes a h] at e
      exact e
    · refine n.h.le.rd a u (w.sub.rd a u ?_)
      unfold Rd at e ⊢
      rw [no a h] at e
      exact e
  · by_cases h : H a = none
    · exact n.wf.sub.ls a xs ((yes a h).symm.trans e)
    · exact n.h a _ (w.sub.ls a xs ((no a h).symm.trans e))
  · by_cases h : H a = none
    · exact n.wf.sub.ts a xs ((yes a h).symm.trans e)
    · exact n.h a _ (w.sub.ts a xs ((no a h).symm.trans e))
  · by_cases h : H a = none
    · exact (yes a h).trans (n.wf.tup a xs e)
    · have q : H a = some (.tup xs) := by
        cases e2 : H a with
        | none => exact absurd e2 h
        | some o => rw [← e, n.h a o e2]
      exact (no a h).trans (w.tup a xs q)
  · have h : H a = none := n.h.back e
    exact (yes a h).trans (n.wf.dom a e)

/-! ### mirrors of expressions -/
abbrev M := List Cell → Option (Cell × List Cell)
abbrev MT := List Cell → Option (Bool × List Cell)
abbrev MA := List Cell → Option (List D × List Cell)
/-- the reading te does what the mirror m tells; p: nothing that stood is changed -/
def E (K : PySem.W.Frag) (p : Bool) (te : TE) (m : M) : Prop :=
  ∀ cs c cs', m cs = some (c, cs') → ∀ en σ J H, Sta K en cs σ J H → ∀ Q : VK,
    (∀ v J' H', Sta K en (c :: cs') (some v :: σ) J' H' → Ex J J' → (p = true → Nw J H J' H') → Q v H') → te σ H Q
def T (K : PySem.W.Frag) (p : Bool) (tt : TT) (m : MT) : Prop :=
  ∀ cs b cs', m cs = some (b, cs') → ∀ en σ J H, Sta K en cs σ J H → ∀ Q : Bool → Hp → Prop,
    (∀ J' H', Sta K en cs' σ J' H' → Ex J J' → (p = true → Nw J H J' H') → Q b H') → tt σ H Q
def A (K : PySem.W.Frag) (p : Bool) (ta : TA) (m : MA) : Prop :=
  ∀ cs ds cs', m cs = some (ds, cs') → ∀ en σ J H, Sta K en cs σ J H → ∀ Q : List V → Hp → Prop,
    (∀ vs J' H', Sta K en cs' σ J' H' → RpAll K J' vs ds → Ex J J' → (p = true → Nw J H J' H') → Q vs H') → ta σ H Q

/-- a family of contexts: a def's body, a comprehension's block in it -/
structure Fm where
  P : Program
  w : World
  K : PySem.W.Frag
  mg : Str → Option Value
  base : Heap
  N : List Str
  sc : Scope
  fn : Str → Bool
  k : Nat
  mem : Cx → Prop
  hP : ∀ X, mem X → X.prog = P
  hw : ∀ X, mem X → X.w = w
  hK : ∀ X, mem X → X.K = K
  hmg : ∀ X, mem X → X.mg = mg
  hbase : ∀ X, mem X → X.base = base
  hN : ∀ X, mem X → X.N = N
  hsc : ∀ X, mem X → X.env.scope = sc
  hfn : ∀ X, mem X → X.fn = fn
  calm : ∀ X, mem X → X.calm = true
  room : ∀ X, mem X → Room k X.A
  gd : ∀ X, mem X → X.A.guards = some []
  xe : ∀ X, mem X → X.xe = fun _ _ => False
  nd : N.Nodup
def EX (F : Fm) (p : Bool) (e : Expr) (m : M) : Prop := ∃ te, (∀ X, F.mem X → PE X e te) ∧ E F.K p te m
def TX (F : Fm) (p : Bool) (e : Expr) (m : MT) : Prop := ∃ te, (∀ X, F.mem X → PT X e te) ∧ T F.K p te m
def AX (F : Fm) (p : Bool) (es : List Expr) (m : MA) : Prop := ∃ te, (∀ X, F.mem X → PA X es te) ∧ A F.K p te m

section
variable {F : Fm} {p : Bool} {e a b : Expr} {m ma mb : M} {pos : Pos}
theorem E.weak {K : PySem.W.Frag} {te : TE} (h : E K true te m) : E K p te m := fun cs c cs' hm en σ J H s Q q => h cs c cs' hm en σ J H s Q fun v J' H' s' x y => q v J' H' s' x fun _ => y rfl
theorem EX.weak (h : EX F true e m) : EX F p e m := let ⟨te, h1, h2⟩ := h; ⟨te, h1, h2.weak⟩
theorem T.weak {K : PySem.W.Frag} {te : TT} {m : MT} (h : T K true te m) : T K p te m := fun cs c cs' hm en σ J H s Q q => h cs c cs' hm en σ J H s Q fun J' H' s' x y => q J' H' s' x fun _ => y rfl
theorem TX.weak {m : MT} (h : TX F true e m) : TX F p e m := let ⟨te, h1, h2⟩ := h; ⟨te, h1, h2.weak⟩
theorem A.weak {K : PySem.W.Frag} {te : TA} {m : MA} (h : A K true te m) : A K p te m := fun cs c cs' hm en σ J H s Q q => h cs c cs' hm en σ J H s Q fun v J' H' s' r x y => q v J' H' s' r x fun _ => y rfl
theorem AX.weak {es : List Expr} {m : MA} (h : AX F true es m) : AX F p es m := let ⟨te, h1, h2⟩ := h; ⟨te, h1, h2.weak⟩

/-! names, constants -/
def mVar (i : Nat) : M := fun cs => match cs[i]? with
  | some (.fz d) => some (.fz d, cs)
  | _ => none
theorem e_var {K : PySem.W.Frag} (i : Nat) : E K p (tVar i) (mVar i) := fun cs c cs' hm en σ J H s Q q => by
  unfold mVar at hm
  split at hm
  · next d he =>
    cases hm
    obtain ⟨v, h1, h2⟩ := s.getFz he
    exact ⟨v, h1, q v J H (s.pushFz h2) (.refl J) fun _ => .refl s.wf⟩
  · cases hm
theorem ex_var (i : Nat) {x : Str} (hN : F.N[i]? = some x) (hv : Vis F.sc x) (hd : (x == ("__debug__" : Str)) = false) (hcd : (x == ("__classdict__" : Str)) = false) : EX F p (.Name x pos) (mVar i) :=
  ⟨tVar i, fun X hX => pe_var (by rw [F.hN X hX]; exact hN) (by rw [F.hsc X hX]; exact hv) hd hcd, e_var i⟩
/-- an owned name's value moved out (for return) -/
def mMove (i : Nat) : M := fun cs => match cs[i]? with
  | some (.ow s d) => some (.ow s d, cs.set i .un)
  | _ => none
theorem ex_move (i : Nat) {x : Str} (hN : F.N[i]? = some x) (hv : Vis F.sc x) (hd : (x == ("__debug__" : Str)) = false) (hcd : (x == ("__classdict__" : Str)) = false) : EX F false (.Name x pos) (mMove i) :=
  ⟨tVar i, fun X hX => pe_var (by rw [F.hN X hX]; exact hN) (by rw [F.hsc X hX]; exact hv) hd hcd, fun cs c cs' hm en σ J H s Q q => by
    unfold mMove at hm
    split at hm
    · next sh d he =>
      cases hm
      obtain ⟨v, h1, h2⟩ := s.move he
      exact ⟨v, h1, q v J H h2 (.refl J) fun z => nomatch z⟩
    · cases hm⟩
/-- owned data frozen -/
def mFrz (m : M) : M := fun cs => match m cs with
  | some (.ow _ d, cs') => some (.fz d, cs')
  | r => r
theorem ex_frz (h : EX F p e m) : EX F false e (mFrz m) := by
  obtain ⟨te, h1, h2⟩ := h
  refine ⟨te, h1, fun cs c cs' hm en σ J H s Q q => ?_⟩
  unfold mFrz at hm
  split at hm
  · next sh d cs1 he =>
    cases hm
    refine h2 _ _ _ he en σ J H s Q fun v J' H' s' x y => ?_
    obtain ⟨J2, e2, s2⟩ := s'.freeze
    exact q v J2 H' s2 (x.trans e2) fun z => nomatch z
  · exact h2 _ _ _ hm en σ J H s Q fun v J' H' s' x y => q v J' H' s' x fun z => nomatch z
/-- a pure expression over what the heap holds just now: its value holds no list or dict -/
def mVol (m : M) : M := fun cs => match m (frz cs) with
  | some (.fz d, _) => if imm d then some (.fz d, cs) else none
  | _ => none
theorem ex_vol (h : EX F true e m) : EX F p e (mVol m) := by
  obtain ⟨te, h1, h2⟩ := h
  refine ⟨te, h1, fun cs c cs' hm en σ J H s Q q => ?_⟩
  unfold mVol at hm
  split at hm
  · next d cs1 he =>
    split at hm
    · next hi =>
      cases hm
      refine h2 _ _ _ he ⟨H, H, []⟩ σ H H s.frzAll Q fun v J' H' s' x y => ?_
      have n := Nw.view s.wf (y rfl)
      have r := (s'.headFz.le s'.wf.sub).back n.wf hi
      exact q v _ H' ((s.nw n).pushFz r) n.j fun _ => n
    · cases hm
  · cases hm
def mC (d : D) : M := fun cs => some (.fz d, cs)
theorem e_c {K : PySem.W.Frag} {v : V} {d : D} (r : ∀ J, Rp K J v d) : E K p (tC v) (mC d) := fun cs c cs' hm en σ J H s Q q => by
  cases hm
  exact q v J H (s.pushFz (r J)) (.refl J) fun _ => .refl s.wf
theorem ex_int {i : Int} {j : Nat} : EX F p (.Constant (.int i) j pos) (mC (.int i)) := ⟨_, fun X hX => pe_int, e_c fun _ => .int i⟩
theorem ex_str {x : String} {j : Nat} : EX F p (.Constant (.str x) j pos) (mC (.str (Str.ofString x))) := ⟨_, fun X hX => pe_str, e_c fun _ => .str _⟩
theorem ex_non {j : Nat} : EX F p (.Constant .none j pos) (mC .none) := ⟨_, fun X hX => pe_non, e_c fun _ => .non⟩
theorem ex_bl {b : Bool} {j : Nat} : EX F p (.Constant (.bool b) j pos) (mC (.bool b)) := ⟨_, fun X hX => pe_bl, e_c fun _ => .bl b⟩
end
end Mi

/-! Mi3: data as the library reads it; operators over data. -/
namespace Mi
open PySem PySem.Spec PyProof.Rows L2

/-- lengths of lists and texts stay below this -/
def LIM : Nat := 4000000
theorem lim_line : LIM ≤ sizeLine := by decide

/-! ### data as the library's own relation -/
mutual
def noList : D → Bool
  | .none | .bool _ | .int _ | .str _ => true
  | .tuple ds => noListAll ds
  | .list _ => false
  | .dict es => noListKv es
def noListAll : List D → Bool
  | [] => true
  | d :: ds => noList d && noListAll ds
def noListKv : List (D × D) → Bool
  | [] => true
  | (_, d) :: es => noList d && noListKv es
end
theorem flat_reads {h : Heap} : ∀ {k : List Key} {us : List Value}, Vals (k.map kV) us → ReadsAll h us (k.map keyD) []
  | [], _, r => by cases r; exact .nil
  | .inl i :: k, _, r => by
    cases r with
    | cons r1 r2 =>
      obtain ⟨t, rfl⟩ := r1
      exact .cons (as := []) (.int i t) (flat_reads r2)
  | .inr x :: k, _, r => by
    cases r with
    | cons r1 r2 =>
      obtain ⟨t, rfl⟩ := r1
      exact .cons (as := []) (.str x t) (flat_reads r2)
section
variable {X : Cx} {pins : List (Addr × Obj)} {σ : L2.St} {H : Hp} {s : Shared}
theorem keys_reads {h : Heap} {prog : Program} {w : World} {K : PySem.W.Frag} {J : Hp} : ∀ {kvs : List (Key × V)} {ds : List (D × D)} {vs : List (Key × Value)} {es : List DictEntry}, RpK K J kvs ds → KV kvs vs → Pairs (mixKind prog w) es vs → ReadsAll h (es.map (·.key)) (ds.map (·.1)) []
  | _, _, _, _, .nil, r, q => by
    cases r
    cases q
    exact .nil
  | _, _, _, _, .cons (k := k) h1 h2, r, q => by
    cases r with
    | cons r1 r2 =>
      cases q with
      | cons q1 q2 q3 =>
        have ih := keys_reads (h := h) h2 r2 q3
        obtain ⟨e1, e2⟩ := r1
        rw [← e1] at q1
        rcases keyIs_shape q1 with ⟨i, t, ek, ev⟩ | ⟨x, t, ek, ev⟩
        · have ek' : k = Sum.inl i := ek
          subst ek'
          rw [List.map_cons, ev]
          exact .cons (as := []) (.int i t) ih
        · have ek' : k = Sum.inr x := ek
          subst ek'
          rw [List.map_cons, ev]
          exact .cons (as := []) (.str x t) ih
theorem keysT_reads (I : Inv X pins σ H s) {K : PySem.W.Frag} {J : Hp} : ∀ {kvs : List (List Key × V)} {ds : List (D × D)} {xs : List (List Key × Addr × Value)} {es : List DictEntry}, RpT K J kvs ds →
    Paired (fun (p : List Key × V) (q : List Key × Addr × Value) => p.1 = q.1 ∧ H q.2.1 = some (.tup (p.1.map kV)) ∧ RelV p.2 q.2.2) kvs xs → es = xs.map (entryOfKey (tupleKind (mixKind X.prog X.w))) → ReadsAll s.heap (es.map (·.key)) (ds.map (·.1)) []
  | _, _, _, _, .nil, r, q => by
    cases r
    subst q
    exact .nil
  | _, _, _, _, .cons (k := k) h1 h2, r, q => by
    cases r with
    | cons r1 r2 =>
      subst q
      have ih := keysT_reads I h2 r2 rfl
      obtain ⟨e1, e2, e3⟩ := r1
      obtain ⟨its, rv, ⟨o, ho, hc, n, hd⟩, _⟩ := I.tuple (SqT.of e2)
      rw [List.map_cons, List.map_cons, List.map_cons]
      exact .cons (as := []) (.tuple ho hc hd (by simpa using flat_reads rv)) ih
mutual
theorem Rp.reads (I : Inv X pins σ H s) : ∀ {v : V} {d : D} {u : Value}, Rp X.K H v d → RelV v u → ∃ as, Reads s.heap u d as ∧ (noList d = true → sysModules ∉ as)
  | _, _, _, .non, r => by cases r; exact ⟨_, .none, fun _ z => nomatch z⟩
  | _, _, _, .bl b, r => by cases r; exact ⟨_, .bool b, fun _ z => nomatch z⟩
  | _, _, _, .int i, r => by obtain ⟨t, rfl⟩ := r; exact ⟨_, .int i t, fun _ z => nomatch z⟩
  | _, _, _, .str x, r => by obtain ⟨t, rfl⟩ := r; exact ⟨_, .str x t, fun _ z => nomatch z⟩
  | _, _, _, .lst h hr, r => by
    cases r
    obtain ⟨its, rv, ⟨o, n, ho, hc, _, hd⟩, _⟩ := I.list (SqL.of h)
    obtain ⟨as, h1, _⟩ := RpAll.reads I hr rv
    exact ⟨_, .list ho hc hd (by simpa using h1), fun z => by simp [noList] at z⟩
  | _, _, _, .tup h hr, r => by
    cases r
    obtain ⟨its, rv, ⟨o, ho, hc, n, hd⟩, _⟩ := I.tuple (SqT.of h)
    obtain ⟨as, h1, h2⟩ := RpAll.reads I hr rv
    exact ⟨_, .tuple ho hc hd (by simpa using h1), fun z => h2 (by simpa [noList] using z)⟩
  | _, _, _, .dk (a := a) h hr, r => by
    cases r
    obtain ⟨_, hS, vs, rv, o, es, ep, ho, hc, hd, _, hp, _⟩ := h.ok I.hok
    obtain ⟨as, h1, h2⟩ := RpK.reads I hr rv hp
    refine ⟨_, .dict ho hc.1 hd (keys_reads hr rv hp) h1, fun z q => ?_⟩
    rcases List.mem_append.mp q with q | q
    · rcases List.mem_cons.mp q with q | q
      · rw [← q] at hS; simp at hS
      · cases q
    · exact h2 (by simpa [noList] using z) q
  | _, _, _, .dt (a := a) h hr, r => by
    cases r
    obtain ⟨_, hS, xs, rv, o, es, ep, ho, hc, hd, he, _⟩ := h.ok I.hok
    obtain ⟨as, h1, h2⟩ := RpT.reads I hr rv he
    refine ⟨_, .dict ho hc.1 hd (keysT_reads I hr rv he) h1, fun z q => ?_⟩
    rcases List.mem_append.mp q with q | q
    · rcases List.mem_cons.mp q with q | q
      · rw [← q] at hS; simp at hS
      · cases q
    · exact h2 (by simpa [noList] using z) q
theorem RpAll.reads (I : Inv X pins σ H s) : ∀ {vs : List V} {ds : List D} {us : List Value}, RpAll X.K H vs ds → Vals vs us → ∃ as, ReadsAll s.heap us ds as ∧ (noListAll ds = true → sysModules ∉ as)
  | _, _, _, .nil, r => by cases r; exact ⟨_, .nil, fun _ z => nomatch z⟩
  | _, _, _, .cons h hr, r => by
    cases r with
    | cons r1 r2 =>
      obtain ⟨as, q1, q2⟩ := Rp.reads I h r1
      obtain ⟨bs, q3, q4⟩ := RpAll.reads I hr r2
      refine ⟨_, .cons q1 q3, fun z q => ?_⟩
      simp only [noListAll, Bool.and_eq_true] at z
      exact (List.mem_append.mp q).elim (q2 z.1) (q4 z.2)
theorem RpK.reads (I : Inv X pins σ H s) : ∀ {kvs : List (Key × V)} {ds : List (D × D)} {vs : List (Key × Value)} {es : List DictEntry}, RpK X.K H kvs ds → KV kvs vs → Pairs (mixKind X.prog X.w) es vs →
    ∃ as, ReadsAll s.heap (es.map (·.val)) (ds.map (·.2)) as ∧ (noListKv ds = true → sysModules ∉ as)
  | _, _, _, _, .nil, r, q => by
    cases r
    cases q
    exact ⟨_, .nil, fun _ z => nomatch z⟩
  | _, _, _, _, .cons h hr, r, q => by
    cases r with
    | cons r1 r2 =>
      cases q with
      | cons p1 p2 p3 =>
        obtain ⟨as, q1, q2⟩ := Rp.reads I h r1.2
        obtain ⟨bs, q3, q4⟩ := RpK.reads I hr r2 p3
        rw [List.map_cons, p2]
        refine ⟨_, .cons q1 q3, fun z q => ?_⟩
        simp only [noListKv, Bool.and_eq_true] at z
        exact (List.mem_append.mp q).elim (q2 z.1) (q4 z.2)
theorem RpT.reads (I : Inv X pins σ H s) : ∀ {kvs : List (List Key × V)} {ds : List (D × D)} {xs : List (List Key × Addr × Value)} {es : List DictEntry}, RpT X.K H kvs ds →
    Paired (fun (p : List Key × V) (q : List Key × Addr × Value) => p.1 = q.1 ∧ H q.2.1 = some (.tup (p.1.map kV)) ∧ RelV p.2 q.2.2) kvs xs → es = xs.map (entryOfKey (tupleKind (mixKind X.prog X.w))) →
    ∃ as, ReadsAll s.heap (es.map (·.val)) (ds.map (·.2)) as ∧ (noListKv ds = true → sysModules ∉ as)
  | _, _, _, _, .nil, r, q => by
    cases r
    subst q
    exact ⟨_, .nil, fun _ z => nomatch z⟩
  | _, _, _, _, .cons h hr, r, q => by
    cases r with
    | cons r1 r2 =>
      subst q
      obtain ⟨as, q1, q2⟩ := Rp.reads I h r1.2.2
      obtain ⟨bs, q3, q4⟩ := RpT.reads I hr r2 rfl
      refine ⟨_, .cons q1 q3, fun z q => ?_⟩
      simp only [noListKv, Bool.and_eq_true] at z
      exact (List.mem_append.mp q).elim (q2 z.1) (q4 z.2)
end
end
end Mi

/-! Mi4: operators, comparisons, tests over data. -/
namespace Mi
open PySem PySem.Spec PyProof.Rows L2

def RV1 (K : PySem.W.Frag) (f : D → Option D) : V → Hp → VK → Prop := fun x H Q => ∃ J d z, Wf J H ∧ Rp K J x d ∧ f d = some z ∧ ∀ u J' H', Nw J H J' H' → Rp K J' u z → Q u H'
def RV2 (K : PySem.W.Frag) (f : D → D → Option D) : R2 := fun x y H Q => ∃ J d e z, Wf J H ∧ Rp K J x d ∧ Rp K J y e ∧ f d e = some z ∧ ∀ u J' H', Nw J H J' H' → Rp K J' u z → Q u H'
def RVn (K : PySem.W.Frag) (f : List D → Option D) : List V → Hp → VK → Prop := fun xs H Q => ∃ J ds z, Wf J H ∧ RpAll K J xs ds ∧ f ds = some z ∧ ∀ u J' H', Nw J H J' H' → Rp K J' u z → Q u H'

/-! ### mirrors -/
def mOp (f : D → D → Option D) (ma mb : M) : M := fun cs => match ma cs with
  | some (.fz x, cs1) => match mb cs1 with
    | some (.fz y, cs2) => match f x y with
      | some z => some (.fz z, cs2)
      | none => none
    | _ => none
  | _ => none
def mUn (f : D → Option D) (ma : M) : M := fun cs => match ma cs with
  | some (.fz x, cs1) => match f x with
    | some z => some (.fz z, cs1)
    | none => none
  | _ => none
def mNil : MA := fun cs => some ([], cs)
def mCons (ma : M) (mr : MA) : MA := fun cs => match ma cs with
  | some (.fz x, cs1) => match mr cs1 with
    | some (xs, cs2) => some (x :: xs, cs2)
    | none => none
  | _ => none
def mCall (f : List D → Option D) (ma : MA) : M := fun cs => match ma cs with
  | some (ds, cs1) => match f ds with
    | some z => some (.fz z, cs1)
    | none => none
  | none => none
section
variable {K : PySem.W.Frag} {p : Bool} {ta tb : TE} {ma mb : M} {F : Fm} {a b c e : Expr} {pos : Pos}
theorem Nw.and {J H J1 H1 J2 H2 : Hp} (a : p = true → Nw J H J1 H1) (b : p = true → Nw J1 H1 J2 H2) : p = true → Nw J H J2 H2 := fun h => (a h).trans (b h)
theorem e_op {f : D → D → Option D} (ha : E K p ta ma) (hb : E K p tb mb) : E K p (tOp (RV2 K f) ta tb) (mOp f ma mb) := fun cs c cs' hm en σ J H s Q q => by
  unfold mOp at hm
  split at hm
  · next x cs1 h1 =>
    split at hm
    · next y cs2 h2 =>
      split at hm
      · next z h3 =>
        cases hm
        refine ha _ _ _ h1 en σ J H s _ fun v1 J1 H1 s1 x1 n1 => ?_
        refine hb _ _ _ h2 en σ J1 H1 s1.pop _ fun v2 J2 H2 s2 x2 n2 => ?_
        exact ⟨J2, x, y, z, s2.wf, s1.headFz.ex x2, s2.headFz, h3, fun u J3 H3 n3 r3 => q u J3 H3 ((s2.pop.nw n3).pushFz r3) ((x1.trans x2).trans n3.j) (Nw.and (Nw.and n1 n2) fun _ => n3)⟩
      · cases hm
    · cases hm
  · cases hm
theorem e_un {f : D → Option D} (ha : E K p ta ma) : E K p (tUn (RV1 K f) ta) (mUn f ma) := fun cs c cs' hm en σ J H s Q q => by
  unfold mUn at hm
  split at hm
  · next x cs1 h1 =>
    split at hm
    · next z h3 =>
      cases hm
      refine ha _ _ _ h1 en σ J H s _ fun v1 J1 H1 s1 x1 n1 => ?_
      exact ⟨J1, x, z, s1.wf, s1.headFz, h3, fun u J3 H3 n3 r3 => q u J3 H3 ((s1.pop.nw n3).pushFz r3) (x1.trans n3.j) (Nw.and n1 fun _ => n3)⟩
    · cases hm
  · cases hm
theorem a_nil : A K p tNil mNil := fun cs ds cs' hm en σ J H s Q q => by
  cases hm
  exact q [] J H s .nil (.refl J) fun _ => .refl s.wf
theorem a_cons {tr : TA} {mr : MA} (ha : E K p ta ma) (hr : A K p tr mr) : A K p (tCons ta tr) (mCons ma mr) := fun cs ds cs' hm en σ J H s Q q => by
  unfold mCons at hm
  split at hm
  · next x cs1 h1 =>
    split at hm
    · next xs cs2 h2 =>
      cases hm
      refine ha _ _ _ h1 en σ J H s _ fun v1 J1 H1 s1 x1 n1 => ?_
      refine hr _ _ _ h2 en σ J1 H1 s1.pop _ fun v2 J2 H2 s2 r2 x2 n2 => ?_
      exact q _ J2 H2 s2 (.cons (s1.headFz.ex x2) r2) (x1.trans x2) (Nw.and n1 n2)
    · cases hm
  · cases hm
theorem e_callB {f : List D → Option D} {tr : TA} {mr : MA} (ha : A K p tr mr) : E K p (tCB (RVn K f) tr) (mCall f mr) := fun cs c cs' hm en σ J H s Q q => by
  unfold mCall at hm
  split at hm
  · next ds cs1 h1 =>
    split at hm
    · next z h2 =>
      cases hm
      refine ha _ _ _ h1 en σ J H s _ fun vs J1 H1 s1 r1 x1 n1 => ?_
      exact ⟨J1, ds, z, s1.wf, r1, h2, fun u J3 H3 n3 r3 => q u J3 H3 ((s1.nw n3).pushFz r3) (x1.trans n3.j) (Nw.and n1 fun _ => n3)⟩
    · cases hm
  · cases hm
theorem ax_nil : AX F p [] mNil := ⟨_, fun _ _ => pa_nil, a_nil⟩
theorem ax_cons {es : List Expr} {mr : MA} (ha : EX F p e ma) (hr : AX F p es mr) (hs : ∀ env, starEach (e :: es) env = (false, eval e env) :: starEach es env) : AX F p (e :: es) (mCons ma mr) := by
  obtain ⟨t1, h1, g1⟩ := ha
  obtain ⟨t2, h2, g2⟩ := hr
  exact ⟨_, fun X hX => pa_cons (h1 X hX) (h2 X hX) (hs _), a_cons g1 g2⟩
theorem ex_op {op : Operator} {f : D → D → Option D} (ho : ∀ X, OpR X (binaryOp op) (RV2 X.K f)) (ha : EX F p a ma) (hb : EX F p b mb) : EX F p (.BinOp a op b pos) (mOp f ma mb) := by
  obtain ⟨t1, h1, g1⟩ := ha
  obtain ⟨t2, h2, g2⟩ := hb
  exact ⟨tOp (RV2 F.K f) t1 t2, fun X hX => by rw [← F.hK X hX]; exact pe_op (ho X) (h1 X hX) (h2 X hX), e_op g1 g2⟩
theorem ex_cmp {op : CmpOp} {f : D → D → Option D} (ho : ∀ X, X.A.units + 65 < cLine → OpR X (compareOp op) (RV2 X.K f)) (ha : EX F p a ma) (hb : EX F p b mb) (hm : behindInMarks op b = false) : EX F p (.Compare a [op] [b] pos) (mOp f ma mb) := by
  obtain ⟨t1, h1, g1⟩ := ha
  obtain ⟨t2, h2, g2⟩ := hb
  exact ⟨tOp (RV2 F.K f) t1 t2, fun X hX => by
    have hr := (F.room X hX).un
    rw [← F.hK X hX]
    exact pe_cmpR (ho X (by omega)) (h1 X hX) (h2 X hX) hm, e_op g1 g2⟩
theorem ex_unop {op : UnaryOp} {f : D → Option D} (ho : ∀ X, UnR X (unaryOp op) (RV1 X.K f)) (ha : EX F p a ma) : EX F p (.UnaryOp op a pos) (mUn f ma) := by
  obtain ⟨t1, h1, g1⟩ := ha
  exact ⟨tUn (RV1 F.K f) t1, fun X hX => by rw [← F.hK X hX]; exact pe_un (ho X) (h1 X hX), e_un g1⟩

/-! ### tests -/
def mTest (m : M) : MT := fun cs => match m cs with
  | some (.fz (.bool b), cs') => some (b, cs')
  | _ => none
theorem t_test (h : E K p ta ma) : T K p (tTest ta) (mTest ma) := fun cs b cs' hm en σ J H s Q q => by
  unfold mTest at hm
  split at hm
  · next b' cs1 h1 =>
    cases hm
    refine h _ _ _ h1 en σ J H s _ fun v J1 H1 s1 x1 n1 => ?_
    cases s1.headFz
    exact ⟨b, rfl, q J1 H1 s1.pop x1 n1⟩
  · cases hm
theorem tx_cmp {op : CmpOp} {f : D → D → Option D} (ho : ∀ X, X.A.units + 65 < cLine → OpR X (compareOp op) (RV2 X.K f)) (ha : EX F p a ma) (hb : EX F p b mb) (hm : behindInMarks op b = false) : TX F p (.Compare a [op] [b] pos) (mTest (mOp f ma mb)) := by
  obtain ⟨t1, h1, g1⟩ := ha
  obtain ⟨t2, h2, g2⟩ := hb
  exact ⟨tTest (tOp (RV2 F.K f) t1 t2), fun X hX => by
    have hr := (F.room X hX).un
    rw [← F.hK X hX]
    exact pt_cmpR (ho X (by omega)) (h1 X hX) (h2 X hX) hm, t_test (e_op g1 g2)⟩
theorem tx_val (h : EX F p e ma) (he : ∀ env whole, isTrue e env whole = (do let v ← whole; standAt e.pos; holding [v] (truthy v))) : TX F p e (mTest ma) := by
  obtain ⟨t1, h1, g1⟩ := h
  exact ⟨tB t1, fun X hX => pt_val (h1 X hX) (he _), t_test g1⟩
/-- a test of what the heap holds just now, its own slots left -/
def mVolT (m : MT) : MT := fun cs => match m (frz cs) with
  | some (b, _) => some (b, cs)
  | none => none
theorem tx_vol {m : MT} (h : TX F true e m) : TX F p e (mVolT m) := by
  obtain ⟨tt, h1, h2⟩ := h
  refine ⟨tt, h1, fun cs b cs' hm en σ J H s Q q => ?_⟩
  unfold mVolT at hm
  split at hm
  · next b' cs1 he =>
    cases hm
    refine h2 _ _ _ he ⟨H, H, []⟩ σ H H s.frzAll Q fun J' H' s' x y => ?_
    have n := Nw.view s.wf (y rfl)
    exact q _ H' (s.nw n) n.j fun _ => n
  · cases hm
def mAnd (a b : MT) : MT := fun cs => match a cs with
  | some (true, cs1) => b cs1
  | r => r
def mOr (a b : MT) : MT := fun cs => match a cs with
  | some (false, cs1) => b cs1
  | r => r
def mNot (a : MT) : MT := fun cs => match a cs with
  | some (b, cs1) => some (!b, cs1)
  | none => none
variable {t u : TT} {m m' : MT}
theorem t_and (ha : T K p t m) (hb : T K p u m') : T K p (tAnd t u) (mAnd m m') := fun cs b cs' hm en σ J H s Q q => by
  unfold mAnd at hm
  cases h1 : m cs with
  | none => rw [h1] at hm; cases hm
  | some r =>
    obtain ⟨k, cs1⟩ := r
    refine ha _ _ _ h1 en σ J H s _ fun J1 H1 s1 x1 n1 => ?_
    cases k with
    | true =>
      rw [h1] at hm
      rw [if_pos rfl]
      exact hb _ _ _ hm en σ J1 H1 s1 _ fun J2 H2 s2 x2 n2 => q J2 H2 s2 (x1.trans x2) (Nw.and n1 n2)
    | false =>
      rw [h1] at hm
      cases hm
      rw [if_neg Bool.false_ne_true]
      exact q J1 H1 s1 x1 n1
theorem t_or (ha : T K p t m) (hb : T K p u m') : T K p (tOr t u) (mOr m m') := fun cs b cs' hm en σ J H s Q q => by
  unfold mOr at hm
  cases h1 : m cs with
  | none => rw [h1] at hm; cases hm
  | some r =>
    obtain ⟨k, cs1⟩ := r
    refine ha _ _ _ h1 en σ J H s _ fun J1 H1 s1 x1 n1 => ?_
    cases k with
    | false =>
      rw [h1] at hm
      rw [if_neg Bool.false_ne_true]
      exact hb _ _ _ hm en σ J1 H1 s1 _ fun J2 H2 s2 x2 n2 => q J2 H2 s2 (x1.trans x2) (Nw.and n1 n2)
    | true =>
      rw [h1] at hm
      cases hm
      rw [if_pos rfl]
      exact q J1 H1 s1 x1 n1
theorem t_not (ha : T K p t m) : T K p (tNot t) (mNot m) := fun cs b cs' hm en σ J H s Q q => by
  unfold mNot at hm
  split at hm
  · next k cs1 h1 =>
    cases hm
    exact ha _ _ _ h1 en σ J H s _ fun J1 H1 s1 x1 n1 => q J1 H1 s1 x1 n1
  · cases hm
def WX (F : Fm) (p : Bool) (e : Expr) (m : MT) : Prop := ∃ te, (∀ X, F.mem X → PW X e te) ∧ T F.K p te m
theorem WX.tx (h : WX F p e m) : TX F p e m := let ⟨t, h1, h2⟩ := h; ⟨t, fun X hX => (h1 X hX).pt, h2⟩
theorem wx_and1 (h : TX F p a m) : WX F p (.BoolOp .And [a] pos) m := let ⟨t, h1, h2⟩ := h; ⟨t, fun X hX => pw_and1 (h1 X hX), h2⟩
theorem wx_or1 (h : TX F p a m) : WX F p (.BoolOp .Or [a] pos) m := let ⟨t, h1, h2⟩ := h; ⟨t, fun X hX => pw_or1 (h1 X hX), h2⟩
theorem wx_and {r : List Expr} (h : TX F p a m) (g : WX F p (.BoolOp .And (b :: r) pos) m') : WX F p (.BoolOp .And (a :: b :: r) pos) (mAnd m m') :=
  let ⟨_, h1, h2⟩ := h; let ⟨_, g1, g2⟩ := g; ⟨_, fun X hX => pw_and (h1 X hX) (g1 X hX), t_and h2 g2⟩
theorem wx_or {r : List Expr} (h : TX F p a m) (g : WX F p (.BoolOp .Or (b :: r) pos) m') : WX F p (.BoolOp .Or (a :: b :: r) pos) (mOr m m') :=
  let ⟨_, h1, h2⟩ := h; let ⟨_, g1, g2⟩ := g; ⟨_, fun X hX => pw_or (h1 X hX) (g1 X hX), t_or h2 g2⟩
theorem tx_not (h : TX F p a m) : TX F p (.UnaryOp .Not a pos) (mNot m) := let ⟨_, h1, h2⟩ := h; ⟨_, fun X hX => pt_not (h1 X hX), t_not h2⟩

/-! and, or, not as values -/
def mAndV (a b : M) : M := fun cs => match a cs with
  | some (.fz (.bool true), cs1) => b cs1
  | some (.fz (.bool false), cs1) => some (.fz (.bool false), cs1)
  | _ => none
def mOrV (a b : M) : M := fun cs => match a cs with
  | some (.fz (.bool false), cs1) => b cs1
  | some (.fz (.bool true), cs1) => some (.fz (.bool true), cs1)
  | _ => none
def mNotV (a : M) : M := fun cs => match a cs with
  | some (.fz (.bool b), cs1) => some (.fz (.bool !b), cs1)
  | _ => none
theorem e_and (ha : E K p ta ma) (hb : E K p tb mb) : E K p (tAndV ta tb) (mAndV ma mb) := fun cs c cs' hm en σ J H s Q q => by
  unfold mAndV at hm
  split at hm
  · next cs1 h1 =>
    refine ha _ _ _ h1 en σ J H s _ fun v J1 H1 s1 x1 n1 => ?_
    cases s1.headFz
    refine ⟨true, rfl, ?_⟩
    rw [if_pos rfl]
    exact hb _ _ _ hm en σ J1 H1 s1.pop _ fun v J2 H2 s2 x2 n2 => q v J2 H2 s2 (x1.trans x2) (Nw.and n1 n2)
  · next cs1 h1 =>
    cases hm
    refine ha _ _ _ h1 en σ J H s _ fun v J1 H1 s1 x1 n1 => ?_
    cases s1.headFz
    refine ⟨false, rfl, ?_⟩
    rw [if_neg Bool.false_ne_true]
    exact q _ J1 H1 s1 x1 n1
  · cases hm
theorem e_or (ha : E K p ta ma) (hb : E K p tb mb) : E K p (tOrV ta tb) (mOrV ma mb) := fun cs c cs' hm en σ J H s Q q => by
  unfold mOrV at hm
  split at hm
  · next cs1 h1 =>
    refine ha _ _ _ h1 en σ J H s _ fun v J1 H1 s1 x1 n1 => ?_
    cases s1.headFz
    refine ⟨false, rfl, ?_⟩
    rw [if_neg Bool.false_ne_true]
    exact hb _ _ _ hm en σ J1 H1 s1.pop _ fun v J2 H2 s2 x2 n2 => q v J2 H2 s2 (x1.trans x2) (Nw.and n1 n2)
  · next cs1 h1 =>
    cases hm
    refine ha _ _ _ h1 en σ J H s _ fun v J1 H1 s1 x1 n1 => ?_
    cases s1.headFz
    refine ⟨true, rfl, ?_⟩
    rw [if_pos rfl]
    exact q _ J1 H1 s1 x1 n1
  · cases hm
theorem e_not (ha : E K p ta ma) : E K p (tNotV ta) (mNotV ma) := fun cs c cs' hm en σ J H s Q q => by
  unfold mNotV at hm
  split at hm
  · next k cs1 h1 =>
    cases hm
    refine ha _ _ _ h1 en σ J H s _ fun v J1 H1 s1 x1 n1 => ?_
    cases s1.headFz
    exact ⟨k, rfl, q _ J1 H1 (s1.pop.pushFz (.bl _)) x1 n1⟩
  · cases hm
theorem ex_one {op : PySem.BoolOp} (h : EX F p a ma) : EX F p (.BoolOp op [a] pos) ma := let ⟨_, h1, h2⟩ := h; ⟨_, fun X hX => pe_one (h1 X hX), h2⟩
theorem ex_and {r : List Expr} (h : EX F p a ma) (g : EX F p (.BoolOp .And (b :: r) pos) mb) : EX F p (.BoolOp .And (a :: b :: r) pos) (mAndV ma mb) :=
  let ⟨_, h1, h2⟩ := h; let ⟨_, g1, g2⟩ := g; ⟨_, fun X hX => pe_and (h1 X hX) (g1 X hX), e_and h2 g2⟩
theorem ex_or {r : List Expr} (h : EX F p a ma) (g : EX F p (.BoolOp .Or (b :: r) pos) mb) : EX F p (.BoolOp .Or (a :: b :: r) pos) (mOrV ma mb) :=
  let ⟨_, h1, h2⟩ := h; let ⟨_, g1, g2⟩ := g; ⟨_, fun X hX => pe_or (h1 X hX) (g1 X hX), e_or h2 g2⟩
theorem ex_not (h : EX F p a ma) : EX F p (.UnaryOp .Not a pos) (mNotV ma) := let ⟨_, h1, h2⟩ := h; ⟨_, fun X hX => pe_not (h1 X hX), e_not h2⟩
def mIf (t : MT) (a b : M) : M := fun cs => match t cs with
  | some (true, cs1) => a cs1
  | some (false, cs1) => b cs1
  | none => none
theorem e_if (ht : T K p t m) (ha : E K p ta ma) (hb : E K p tb mb) : E K p (tIf t ta tb) (mIf m ma mb) := fun cs c cs' hm en σ J H s Q q => by
  unfold mIf at hm
  split at hm
  · next cs1 h1 =>
    refine ht _ _ _ h1 en σ J H s _ fun J1 H1 s1 x1 n1 => ?_
    rw [if_pos rfl]
    exact ha _ _ _ hm en σ J1 H1 s1 _ fun v J2 H2 s2 x2 n2 => q v J2 H2 s2 (x1.trans x2) (Nw.and n1 n2)
  · next cs1 h1 =>
    refine ht _ _ _ h1 en σ J H s _ fun J1 H1 s1 x1 n1 => ?_
    rw [if_neg Bool.false_ne_true]
    exact hb _ _ _ hm en σ J1 H1 s1 _ fun v J2 H2 s2 x2 n2 => q v J2 H2 s2 (x1.trans x2) (Nw.and n1 n2)
  · cases hm
theorem ex_if (ht : TX F p c m) (ha : EX F p a ma) (hb : EX F p b mb) : EX F p (.IfExp c a b pos) (mIf m ma mb) :=
  let ⟨_, t1, t2⟩ := ht; let ⟨_, h1, h2⟩ := ha; let ⟨_, g1, g2⟩ := hb; ⟨_, fun X hX => pe_ifExp (t1 X hX) (h1 X hX) (g1 X hX), e_if t2 h2 g2⟩
end
end Mi

/-! Mi5: the operators' and comparisons' own rules. -/
namespace Mi
open PySem PySem.Spec PyProof.Rows L2

def addD : D → D → Option D
  | .int i, .int j => some (.int (i + j))
  | .str x, .str y => if x.length + y.length ≤ LIM then some (.str (x ++ y)) else none
  | .list xs, .list ys => if xs.length + ys.length ≤ LIM then some (.list (xs ++ ys)) else none
  | .tuple xs, .tuple ys => if xs.length + ys.length ≤ LIM then some (.tuple (xs ++ ys)) else none
  | _, _ => none
def subD : D → D → Option D
  | .int i, .int j => some (.int (i - j))
  | _, _ => none
def mulOk (i j : Int) : Bool := (decide (-(2 ^ 64) < i) && decide (i < 2 ^ 64)) || (decide (-(2 ^ 64) < j) && decide (j < 2 ^ 64))
def mulD : D → D → Option D
  | .int i, .int j => if mulOk i j then some (.int (i * j)) else none
  | .list xs, .int k => if 0 ≤ k ∧ k < 2 ^ 40 ∧ xs.length * k.toNat ≤ LIM then some (.list (List.replicate k.toNat xs).flatten) else none
  | _, _ => none
def fdivD : D → D → Option D
  | .int i, .int j => if 0 < j ∧ j < 1073741824 then some (.int (i / j)) else none
  | _, _ => none
def modD : D → D → Option D
  | .int i, .int j => if 0 < j then some (.int (i % j)) else none
  | _, _ => none
def powD : D → D → Option D
  | .int i, .int j => if 0 ≤ j ∧ j ≤ 1000000 ∧ i.natAbs < 2 ^ 64 then some (.int (i ^ j.toNat)) else none
  | _, _ => none
def negD : D → Option D
  | .int i => some (.int (-i))
  | _ => none
def ltD : D → D → Option D
  | .int i, .int j => some (.bool (decide (i < j)))
  | _, _ => none
def leD : D → D → Option D
  | .int i, .int j => some (.bool (decide (i ≤ j)))
  | _, _ => none
def gtD : D → D → Option D
  | .int i, .int j => some (.bool (decide (j < i)))
  | _, _ => none
def geD : D → D → Option D
  | .int i, .int j => some (.bool (decide (j ≤ i)))
  | _, _ => none
def eqD (d e : D) : Option D := if SeqAt.shaped d && SeqAt.shaped e then some (.bool (PyData.eqv d e)) else none
def neD (d e : D) : Option D := if SeqAt.shaped d && SeqAt.shaped e then some (.bool (!PyData.eqv d e)) else none
def isNoneD : D → Bool
  | .none => true
  | _ => false
def isD (d e : D) : Option D := if isNoneD e then some (.bool (isNoneD d)) else none
def isnotD (d e : D) : Option D := if isNoneD e then some (.bool (!isNoneD d)) else none

section
variable {X : Cx} {K : PySem.W.Frag} {J H : Hp}
theorem RpAll.cat {xs ys : List V} {ds es : List D} (h : RpAll K J xs ds) (g : RpAll K J ys es) : RpAll K J (xs ++ ys) (ds ++ es) := h.append g
theorem RpAll.nil_iff : ∀ {xs : List V} {ds : List D}, RpAll K J xs ds → (xs = [] ↔ ds = [])
  | _, _, .nil => ⟨fun _ => rfl, fun _ => rfl⟩
  | _, _, .cons _ _ => ⟨(fun h => nomatch h), (fun h => nomatch h)⟩
theorem RpAll.rep {xs : List V} {ds : List D} (h : RpAll K J xs ds) : ∀ n : Nat, RpAll K J (List.replicate n xs).flatten (List.replicate n ds).flatten
  | 0 => .nil
  | n + 1 => by
    rw [List.replicate_succ, List.replicate_succ, List.flatten_cons, List.flatten_cons]
    exact h.append (RpAll.rep h n)
/-- a new list, a new tuple, in the view at once -/
theorem new_lst {p : Addr} {xs : List V} {ds : List D} {Q : VK} (w : Wf J H) (hp : H p = none) (a : RpAll K J xs ds) (q : ∀ u J' H', Nw J H J' H' → Rp K J' u (.list ds) → Q u H') : Q (.ref p) (upd H p (.lst xs)) :=
  q _ _ _ (Nw.new w hp) (.lst upd_same (a.ex (Nw.new w hp).j))
theorem new_tup {p : Addr} {xs : List V} {ds : List D} {Q : VK} (w : Wf J H) (hp : H p = none) (a : RpAll K J xs ds) (q : ∀ u J' H', Nw J H J' H' → Rp K J' u (.tuple ds) → Q u H') : Q (.ref p) (upd H p (.tup xs)) :=
  q _ _ _ (Nw.new w hp) (.tup upd_same (a.ex (Nw.new w hp).j))
theorem op_addD : OpR X (binaryOp .Add) (RV2 X.K addD) := fun pins s σ H x y v u Q I rx ry h => by
  obtain ⟨J, d, e, z, w, r1, r2, hf, q⟩ := h
  unfold addD at hf
  split at hf
  · cases r1; cases r2; cases hf
    exact op_add pins s σ H _ _ v u Q I rx ry ⟨_, _, rfl, rfl, q _ J H (.refl w) (.int _)⟩
  · split at hf
    · next hl =>
      cases r1; cases r2; cases hf
      exact op_add_str pins s σ H _ _ v u Q I rx ry ⟨_, _, rfl, rfl, Nat.le_trans hl lim_line, q _ J H (.refl w) (.str _)⟩
    · cases hf
  · split at hf
    · next hl =>
      cases r1 with
      | lst h1 a1 =>
        cases r2 with
        | lst h2 a2 =>
          cases hf
          refine op_cat pins s σ H _ _ v u Q I rx ry ⟨_, _, _, _, rfl, rfl, w.sub.ls _ _ h1, w.sub.ls _ _ h2, ?_, fun p hp => ?_⟩
          · rw [a1.length, a2.length]; exact Nat.le_trans hl lim_line
          · exact new_lst w hp (a1.append a2) q
    · cases hf
  · split at hf
    · next hl =>
      cases r1 with
      | tup h1 a1 =>
        cases r2 with
        | tup h2 a2 =>
          cases hf
          refine op_catA pins s σ H _ _ v u Q I rx ry ⟨_, _, _, _, rfl, rfl, SqT.of (w.sub.ts _ _ h1), SqT.of (w.sub.ts _ _ h2), ?_, fun e1 => ?_, fun _ e2 => ?_, fun _ _ p hp => ?_⟩
          · rw [a1.length, a2.length]; exact Nat.le_trans hl lim_line
          · have := a1.nil_iff.mp e1
            subst this
            exact q _ J H (.refl w) (.tup h2 (by simpa using a2))
          · have := a2.nil_iff.mp e2
            subst this
            exact q _ J H (.refl w) (.tup h1 (by simpa using a1))
          · exact new_tup w hp (a1.append a2) q
    · cases hf
  · cases hf
theorem op_subD : OpR X (binaryOp .Sub) (RV2 X.K subD) := fun pins s σ H x y v u Q I rx ry h => by
  obtain ⟨J, d, e, z, w, r1, r2, hf, q⟩ := h
  unfold subD at hf
  split at hf
  · cases r1; cases r2; cases hf
    exact op_sub pins s σ H _ _ v u Q I rx ry ⟨_, _, rfl, rfl, q _ J H (.refl w) (.int _)⟩
  · cases hf
theorem mulOk_iff {i j : Int} (h : mulOk i j = true) : CMul i j := by
  unfold mulOk at h
  simp only [Bool.or_eq_true, Bool.and_eq_true, decide_eq_true_eq] at h
  exact h
theorem op_mulD : OpR X (binaryOp .Mult) (RV2 X.K mulD) := fun pins s σ H x y v u Q I rx ry h => by
  obtain ⟨J, d, e, z, w, r1, r2, hf, q⟩ := h
  unfold mulD at hf
  split at hf
  · split at hf
    · next hc =>
      cases r1; cases r2; cases hf
      exact op_mul pins s σ H _ _ v u Q I rx ry ⟨_, _, rfl, rfl, mulOk_iff hc, q _ J H (.refl w) (.int _)⟩
    · cases hf
  · split at hf
    · next hc =>
      cases r1 with
      | lst h1 a1 =>
        cases r2; cases hf
        refine op_rep pins s σ H _ _ v u Q I rx ry ⟨_, _, _, rfl, rfl, w.sub.ls _ _ h1, by omega, by omega, ?_, fun p hp => ?_⟩
        · rw [a1.length]; exact Nat.le_trans hc.2.2 lim_line
        · exact new_lst w hp (a1.rep _) q
    · cases hf
  · cases hf
theorem op_fdivD : OpR X (binaryOp .FloorDiv) (RV2 X.K fdivD) := fun pins s σ H x y v u Q I rx ry h => by
  obtain ⟨J, d, e, z, w, r1, r2, hf, q⟩ := h
  unfold fdivD at hf
  split at hf
  · split at hf
    · next hc =>
      cases r1; cases r2; cases hf
      exact op_fdiv pins s σ H _ _ v u Q I rx ry ⟨_, _, rfl, rfl, hc, q _ J H (.refl w) (.int _)⟩
    · cases hf
  · cases hf
theorem op_modD : OpR X (binaryOp .Mod) (RV2 X.K modD) := fun pins s σ H x y v u Q I rx ry h => by
  obtain ⟨J, d, e, z, w, r1, r2, hf, q⟩ := h
  unfold modD at hf
  split at hf
  · split at hf
    · next hc =>
      cases r1; cases r2; cases hf
      exact op_mod pins s σ H _ _ v u Q I rx ry ⟨_, _, rfl, rfl, hc, q _ J H (.refl w) (.int _)⟩
    · cases hf
  · cases hf
theorem op_powD : OpR X (binaryOp .Pow) (RV2 X.K powD) := fun pins s σ H x y v u Q I rx ry h => by
  obtain ⟨J, d, e, z, w, r1, r2, hf, q⟩ := h
  unfold powD at hf
  split at hf
  · split at hf
    · next hc =>
      cases r1; cases r2; cases hf
      exact op_pow pins s σ H _ _ v u Q I rx ry ⟨_, _, rfl, rfl, hc, q _ J H (.refl w) (.int _)⟩
    · cases hf
  · cases hf
theorem un_negD : UnR X (unaryOp .USub) (RV1 X.K negD) := fun pins s σ H x v Q I rx h => by
  obtain ⟨J, d, z, w, r1, hf, q⟩ := h
  unfold negD at hf
  split at hf
  · cases r1; cases hf
    exact un_neg pins s σ H _ v Q I rx ⟨_, rfl, q _ J H (.refl w) (.int _)⟩
  · cases hf
theorem op_ltD : OpR X (compareOp .Lt) (RV2 X.K ltD) := fun pins s σ H x y v u Q I rx ry h => by
  obtain ⟨J, d, e, z, w, r1, r2, hf, q⟩ := h
  unfold ltD at hf
  split at hf
  · cases r1; cases r2; cases hf
    exact op_lt pins s σ H _ _ v u Q I rx ry ⟨_, _, rfl, rfl, q _ J H (.refl w) (.bl _)⟩
  · cases hf
theorem op_leD : OpR X (compareOp .LtE) (RV2 X.K leD) := fun pins s σ H x y v u Q I rx ry h => by
  obtain ⟨J, d, e, z, w, r1, r2, hf, q⟩ := h
  unfold leD at hf
  split at hf
  · cases r1; cases r2; cases hf
    exact op_le pins s σ H _ _ v u Q I rx ry ⟨_, _, rfl, rfl, q _ J H (.refl w) (.bl _)⟩
  · cases hf
theorem op_gtD : OpR X (compareOp .Gt) (RV2 X.K gtD) := fun pins s σ H x y v u Q I rx ry h => by
  obtain ⟨J, d, e, z, w, r1, r2, hf, q⟩ := h
  unfold gtD at hf
  split at hf
  · cases r1; cases r2; cases hf
    exact op_gt pins s σ H _ _ v u Q I rx ry ⟨_, _, rfl, rfl, q _ J H (.refl w) (.bl _)⟩
  · cases hf
theorem op_geD : OpR X (compareOp .GtE) (RV2 X.K geD) := fun pins s σ H x y v u Q I rx ry h => by
  obtain ⟨J, d, e, z, w, r1, r2, hf, q⟩ := h
  unfold geD at hf
  split at hf
  · cases r1; cases r2; cases hf
    exact op_ge pins s σ H _ _ v u Q I rx ry ⟨_, _, rfl, rfl, q _ J H (.refl w) (.bl _)⟩
  · cases hf
theorem op_eqD (hu : X.A.units + 65 < cLine) : OpR X (compareOp .Eq) (RV2 X.K eqD) := fun pins s σ H x y v u Q I rx ry h => by
  obtain ⟨J, d, e, z, w, r1, r2, hf, q⟩ := h
  unfold eqD at hf
  split at hf
  · next hc =>
    cases hf
    simp only [Bool.and_eq_true] at hc
    obtain ⟨as, q1, _⟩ := (r1.le w.sub).reads I rx
    obtain ⟨bs, q2, _⟩ := (r2.le w.sub).reads I ry
    exact SeqAt.compareEq_shaped q1 q2 hc.1 hc.2 (by omega) ⟨.bl _, H, I, rfl, q _ J H (.refl w) (.bl _)⟩
  · cases hf
theorem op_neD (hu : X.A.units + 65 < cLine) : OpR X (compareOp .NotEq) (RV2 X.K neD) := fun pins s σ H x y v u Q I rx ry h => by
  obtain ⟨J, d, e, z, w, r1, r2, hf, q⟩ := h
  unfold neD at hf
  split at hf
  · next hc =>
    cases hf
    simp only [Bool.and_eq_true] at hc
    obtain ⟨as, q1, _⟩ := (r1.le w.sub).reads I rx
    obtain ⟨bs, q2, _⟩ := (r2.le w.sub).reads I ry
    exact SeqAt.compareNe_shaped q1 q2 hc.1 hc.2 (by omega) ⟨.bl _, H, I, rfl, q _ J H (.refl w) (.bl _)⟩
  · cases hf
theorem Rp.isNone {x : V} {d : D} (h : Rp K J x d) : decide (x = .non) = isNoneD d := by cases h <;> simp [isNoneD]
theorem op_isD : OpR X (compareOp .Is) (RV2 X.K isD) := fun pins s σ H x y v u Q I rx ry h => by
  obtain ⟨J, d, e, z, w, r1, r2, hf, q⟩ := h
  unfold isD at hf
  split at hf
  · next hc =>
    cases hf
    cases r2 with
    | non => exact op_isN pins s σ H _ _ v u Q I rx ry ⟨rfl, by rw [r1.isNone]; exact q _ J H (.refl w) (.bl _)⟩
    | _ => exact absurd hc (by simp [isNoneD])
  · cases hf
theorem op_isnotD : OpR X (compareOp .IsNot) (RV2 X.K isnotD) := fun pins s σ H x y v u Q I rx ry h => by
  obtain ⟨J, d, e, z, w, r1, r2, hf, q⟩ := h
  unfold isnotD at hf
  split at hf
  · next hc =>
    cases hf
    cases r2 with
    | non => exact op_notN pins s σ H _ _ v u Q I rx ry ⟨rfl, by rw [r1.isNone]; exact q _ J H (.refl w) (.bl _)⟩
    | _ => exact absurd hc (by simp [isNoneD])
  · cases hf

/-! ### in -/
abbrev KK := Sum Key (List Key)
def flatK : D → Option Key
  | .int i => some (.inl i)
  | .str x => some (.inr x)
  | _ => none
def flatKs : List D → Option (List Key)
  | [] => some []
  | d :: ds => match flatK d, flatKs ds with
    | some k, some ks => some (k :: ks)
    | _, _ => none
def kOf : D → Option KK
  | .int i => some (.inl (.inl i))
  | .str x => some (.inl (.inr x))
  | .tuple ds => match flatKs ds with
    | some ks => some (.inr ks)
    | none => none
  | _ => none
theorem flatK_keyD (k : Key) : flatK (keyD k) = some k := by cases k <;> rfl
theorem flatKs_map : ∀ ks : List Key, flatKs (ks.map keyD) = some ks
  | [] => rfl
  | k :: ks => by simp only [List.map_cons, flatKs, flatK_keyD, flatKs_map ks]
theorem kOf_keyD (k : Key) : kOf (keyD k) = some (.inl k) := by cases k <;> rfl
theorem kOf_tuple (ks : List Key) : kOf (.tuple (ks.map keyD)) = some (.inr ks) := by simp only [kOf, flatKs_map]
theorem flatK_some {d : D} {k : Key} (h : flatK d = some k) : d = keyD k := by
  cases d <;> simp [flatK] at h <;> subst h <;> rfl
theorem flatKs_some : ∀ {ds : List D} {ks : List Key}, flatKs ds = some ks → ds = ks.map keyD
  | [], ks, h => by simp [flatKs] at h; subst h; rfl
  | d :: ds, ks, h => by
    unfold flatKs at h
    split at h
    · next k ks' h1 h2 =>
      cases h
      rw [List.map_cons, ← flatK_some h1, ← flatKs_some h2]
    · cases h
theorem kOf_inl {d : D} {k : Key} (h : kOf d = some (.inl k)) : d = keyD k := by
  cases d <;> simp [kOf] at h
  · subst h; rfl
  · subst h; rfl
  · split at h <;> simp at h
theorem kOf_inr {d : D} {ks : List Key} (h : kOf d = some (.inr ks)) : d = .tuple (ks.map keyD) := by
  cases d <;> simp [kOf] at h
  split at h
  · next ks' h1 =>
    simp at h
    subst h
    rw [flatKs_some h1]
  · simp at h
def sideOk : List (D × D) → KK → Bool
  | [], _ => true
  | e :: es, q => (match kOf e.1, q with
    | some (.inl _), .inl _ => true
    | some (.inr _), .inr _ => true
    | _, _ => false) && sideOk es q
def findD : List (D × D) → KK → Option D
  | [], _ => none
  | e :: es, q => if kOf e.1 = some q then some e.2 else findD es q
def RelOD (K : PySem.W.Frag) (J : Hp) : Option V → Option D → Prop
  | some v, some d => Rp K J v d
  | none, none => True
  | _, _ => False
theorem look_dk {k : Key} : ∀ {kvs : List (Key × V)} {es : List (D × D)}, RpK K J kvs es → RelOD K J (valV kvs k) (findD es (.inl k))
  | _, _, .nil => True.intro
  | _, _, .cons (k := k') h r => by
    unfold findD
    by_cases e : k' = k
    · subst e
      rw [if_pos (kOf_keyD _), valV_pos rfl]
      exact h
    · rw [if_neg (by rw [kOf_keyD]; simpa using e), valV_neg e]
      exact look_dk r
theorem look_dt {k : List Key} : ∀ {kvs : List (List Key × V)} {es : List (D × D)}, RpT K J kvs es → RelOD K J (valV kvs k) (findD es (.inr k))
  | _, _, .nil => True.intro
  | _, _, .cons (k := k') h r => by
    unfold findD
    by_cases e : k' = k
    · subst e
      rw [if_pos (kOf_tuple _), valV_pos rfl]
      exact h
    · rw [if_neg (by rw [kOf_tuple]; simpa using e), valV_neg e]
      exact look_dt r
theorem RelOD.isSome {o : Option V} {d : Option D} (h : RelOD K J o d) : o.isSome = d.isSome := by
  cases o <;> cases d <;> first | rfl | exact h.elim
theorem Rp.keyV {y : V} {k : Key} (h : Rp K J y (keyD k)) : y = kV k := by
  cases k <;> cases h <;> rfl
theorem RpAll.keysV : ∀ {ys : List V} {ks : List Key}, RpAll K J ys (ks.map keyD) → ys = ks.map kV
  | _, [], h => by cases h; rfl
  | _, k :: ks, h => by
    cases h with
    | cons h r => rw [List.map_cons, h.keyV, RpAll.keysV r]
theorem Rp.keyT {y : V} {ks : List Key} (h : Rp K J y (.tuple (ks.map keyD))) : ∃ b, y = .ref b ∧ J b = some (.tup (ks.map kV)) := by
  cases h with
  | tup h a => exact ⟨_, rfl, by rw [h, a.keysV]⟩
theorem side_dt {es : List (D × D)} {kvs : List (List Key × V)} {k : Key} (r : RpT K J kvs es) (h : sideOk es (.inl k) = true) : kvs = [] ∧ es = [] := by
  cases r with
  | nil => exact ⟨rfl, rfl⟩
  | cons _ _ =>
    unfold sideOk at h
    rw [kOf_tuple] at h
    simp at h
theorem side_dk {es : List (D × D)} {kvs : List (Key × V)} {k : List Key} (r : RpK K J kvs es) (h : sideOk es (.inr k) = true) : kvs = [] ∧ es = [] := by
  cases r with
  | nil => exact ⟨rfl, rfl⟩
  | cons _ _ =>
    unfold sideOk at h
    rw [kOf_keyD] at h
    simp at h
theorem empty_dt {P : Program} {w : World} {h : Heap} {a : Addr} (x : h.DictOf (mixKind P w) a []) : h.DictOfH (tupleKind (mixKind P w)) a [] := by
  obtain ⟨o, es, ep, h1, h2, h3, _, h5, _⟩ := x
  have e : es.toList = [] := by
    generalize es.toList = l at h5
    cases h5
    rfl
  exact ⟨o, es, ep, h1, h2, h3, e, (fun _ hx => nomatch hx), List.nodup_nil⟩
theorem empty_dk {P : Program} {w : World} {h : Heap} {a : Addr} (x : h.DictOfH (tupleKind (mixKind P w)) a []) : h.DictOf (mixKind P w) a [] := by
  obtain ⟨o, es, ep, h1, h2, h3, h4, _, _⟩ := x
  have h4' : es.toList = [] := h4
  refine ⟨o, es, ep, h1, h2, h3, fun e he => ?_, by rw [h4']; exact .nil, List.nodup_nil⟩
  have : e ∈ es.toList := by simpa using he
  rw [h4'] at this
  cases this
theorem in_dict {pins : List (Addr × Obj)} {σ : L2.St} {s : Shared} {a : Addr} {es : List (D × D)} {y : V} {k : D} {q : KK} {u : Value} {A : Around} {E : Value → Shared → Prop} {Q : Value → Shared → Prop} (I : Inv X pins σ H s) (hu : A.units + 1 < cLine)
    (r : Rp X.K H (.ref a) (.dict es)) (ry : Rp X.K H y k) (hk : kOf k = some q) (hs : sideOk es q = true) (rv : RelV y u) (h : ∀ s', Inv X pins σ H s' → Q (.bool (findD es q).isSome) s') : wpAny (model X.prog X.w) A (compareOp .In u (.ref a)) Q E s := by
  cases q with
  | inl kk =>
    have e1 := kOf_inl hk
    subst e1
    have e2 := ry.keyV
    subst e2
    cases r with
    | dk rd rk => exact d_in hu I (.inl ⟨_, kk, rd, rfl, rfl⟩) rv fun s' I' => by rw [(look_dk rk).isSome]; exact h s' I'
    | dt rd rt =>
      obtain ⟨e3, e4⟩ := side_dt rt hs
      subst e3 e4
      obtain ⟨_, hd, xs, kt, dd⟩ := dt_rd I.hok rd
      cases kt
      exact wpAny_in_of (kV_is rv) hd (empty_dk dd).mapOf (h _ (I.tok _))
  | inr kk =>
    have e1 := kOf_inr hk
    subst e1
    obtain ⟨b, rfl, hb⟩ := ry.keyT
    cases r with
    | dt rd rt => exact d_in hu I (.inr ⟨_, kk, b, rd, rfl, hb, rfl⟩) rv fun s' I' => by rw [(look_dt rt).isSome]; exact h s' I'
    | dk rd rk =>
      obtain ⟨e3, e4⟩ := side_dk rk hs
      subst e3 e4
      obtain ⟨_, hd, vs, kv, dd⟩ := dk_rd I.hok rd
      cases kv
      cases rv
      exact wpAny_in_heap (tupleKind_room_in1 hu) (key_of I.hok hb) hd (empty_dt dd) (h _ (I.tok _))
theorem notIn_dict {pins : List (Addr × Obj)} {σ : L2.St} {s : Shared} {a : Addr} {es : List (D × D)} {y : V} {k : D} {q : KK} {u : Value} {A : Around} {E : Value → Shared → Prop} {Q : Value → Shared → Prop} (I : Inv X pins σ H s) (hu : A.units + 1 < cLine)
    (r : Rp X.K H (.ref a) (.dict es)) (ry : Rp X.K H y k) (hk : kOf k = some q) (hs : sideOk es q = true) (rv : RelV y u) (h : ∀ s', Inv X pins σ H s' → Q (.bool (!(findD es q).isSome)) s') : wpAny (model X.prog X.w) A (compareOp .NotIn u (.ref a)) Q E s := by
  cases q with
  | inl kk =>
    have e1 := kOf_inl hk
    subst e1
    have e2 := ry.keyV
    subst e2
    cases r with
    | dk rd rk => exact d_notIn hu I (.inl ⟨_, kk, rd, rfl, rfl⟩) rv fun s' I' => by rw [(look_dk rk).isSome]; exact h s' I'
    | dt rd rt =>
      obtain ⟨e3, e4⟩ := side_dt rt hs
      subst e3 e4
      obtain ⟨_, hd, xs, kt, dd⟩ := dt_rd I.hok rd
      cases kt
      exact wpAny_notIn_of (kV_is rv) hd (empty_dk dd).mapOf (h _ (I.tok _))
  | inr kk =>
    have e1 := kOf_inr hk
    subst e1
    obtain ⟨b, rfl, hb⟩ := ry.keyT
    cases r with
    | dt rd rt => exact d_notIn hu I (.inr ⟨_, kk, b, rd, rfl, hb, rfl⟩) rv fun s' I' => by rw [(look_dt rt).isSome]; exact h s' I'
    | dk rd rk =>
      obtain ⟨e3, e4⟩ := side_dk rk hs
      subst e3 e4
      obtain ⟨_, hd, vs, kv, dd⟩ := dk_rd I.hok rd
      cases kv
      cases rv
      exact wpAny_notIn_heap (tupleKind_room_in1 hu) (key_of I.hok hb) hd (empty_dt dd) (h _ (I.tok _))
def strIn (i j : Str) : Bool := !(Builtin.Str.occurrences j i 0 j.length 1).isEmpty
/-- whether d is in c -/
def inB (d c : D) : Option Bool := match c with
  | .list xs => if SeqAt.shaped d && PyData.canLayAll0 xs then some (xs.any fun y => PyData.eqv y d) else none
  | .tuple xs => if SeqAt.shaped d && PyData.canLayAll0 xs then some (xs.any fun y => PyData.eqv y d) else none
  | .dict es => match kOf d with
    | some q => if sideOk es q then some (findD es q).isSome else none
    | none => none
  | .str j => match d with
    | .str i => some (strIn i j)
    | _ => none
  | _ => none
def inD (d c : D) : Option D := (inB d c).map .bool
def ninD (d c : D) : Option D := (inB d c).map fun b => .bool !b
theorem room_in {A : Around} {xs : List D} {d : D} (hd : SeqAt.shaped d = true) (hu : A.units + 65 < cLine) : A.units + 1 + min (PyData.depthAll xs) d.depth < cLine := room_in_shaped hd hu
theorem canLay_shaped {d : D} (h : SeqAt.shaped d = true) : d.canLay0 = true := by
  unfold SeqAt.shaped at h
  simp only [Bool.and_eq_true] at h
  exact h.1
theorem op_inD (hu : X.A.units + 65 < cLine) : OpR X (compareOp .In) (RV2 X.K inD) := fun pins s σ H x y v u Q I rx ry h => by
  obtain ⟨J, d, c, z, w, r1, r2, hf, q⟩ := h
  unfold inD at hf
  obtain ⟨b, hb, hz⟩ := Option.map_eq_some_iff.mp hf
  subst hz
  have fin : ∀ s', Inv X pins σ H s' → EP X pins σ Q (.bool b) s' := fun s' I' => ⟨.bl b, H, I', rfl, q _ J H (.refl w) (.bl b)⟩
  unfold inB at hb
  split at hb
  · split at hb
    · next hc =>
      cases hb
      simp only [Bool.and_eq_true] at hc
      obtain ⟨as, q1, _⟩ := (r1.le w.sub).reads I rx
      obtain ⟨bs, q2, _⟩ := (r2.le w.sub).reads I ry
      exact SeqAt.in_list_reads q2 q1 hc.2 (canLay_shaped hc.1) (room_in hc.1 hu) (fin s I)
    · cases hb
  · split at hb
    · next hc =>
      cases hb
      simp only [Bool.and_eq_true] at hc
      obtain ⟨as, q1, _⟩ := (r1.le w.sub).reads I rx
      obtain ⟨bs, q2, _⟩ := (r2.le w.sub).reads I ry
      exact SeqAt.in_tuple_reads q2 q1 hc.2 (canLay_shaped hc.1) (room_in hc.1 hu) (fin s I)
    · cases hb
  · split at hb
    · next kk hk =>
      split at hb
      · next hs =>
        cases hb
        have r2' := r2.le w.sub
        cases r2' with
        | dk rd rk =>
          cases ry
          exact in_dict I (by omega) (.dk rd rk) (r1.le w.sub) hk hs rx fin
        | dt rd rk =>
          cases ry
          exact in_dict I (by omega) (.dt rd rk) (r1.le w.sub) hk hs rx fin
      · cases hb
    · cases hb
  · split at hb
    · cases hb
      cases r1; cases r2
      exact op_in_str pins s σ H _ _ v u Q I rx ry ⟨_, _, rfl, rfl, q _ J H (.refl w) (.bl _)⟩
    · cases hb
  · cases hb
theorem op_ninD (hu : X.A.units + 65 < cLine) : OpR X (compareOp .NotIn) (RV2 X.K ninD) := fun pins s σ H x y v u Q I rx ry h => by
  obtain ⟨J, d, c, z, w, r1, r2, hf, q⟩ := h
  unfold ninD at hf
  obtain ⟨b, hb, hz⟩ := Option.map_eq_some_iff.mp hf
  subst hz
  have fin : ∀ s', Inv X pins σ H s' → EP X pins σ Q (.bool (!b)) s' := fun s' I' => ⟨.bl (!b), H, I', rfl, q _ J H (.refl w) (.bl _)⟩
  unfold inB at hb
  split at hb
  · split at hb
    · next hc =>
      cases hb
      simp only [Bool.and_eq_true] at hc
      obtain ⟨as, q1, _⟩ := (r1.le w.sub).reads I rx
      obtain ⟨bs, q2, _⟩ := (r2.le w.sub).reads I ry
      exact SeqAt.notIn_list_reads q2 q1 hc.2 (canLay_shaped hc.1) (room_in hc.1 hu) (fin s I)
    · cases hb
  · split at hb
    · next hc =>
      cases hb
      simp only [Bool.and_eq_true] at hc
      obtain ⟨as, q1, _⟩ := (r1.le w.sub).reads I rx
      obtain ⟨bs, q2, _⟩ := (r2.le w.sub).reads I ry
      exact SeqAt.notIn_tuple_reads q2 q1 hc.2 (canLay_shaped hc.1) (room_in hc.1 hu) (fin s I)
    · cases hb
  · split at hb
    · next kk hk =>
      split at hb
      · next hs =>
        cases hb
        have r2' := r2.le w.sub
        cases r2' with
        | dk rd rk =>
          cases ry
          exact notIn_dict I (by omega) (.dk rd rk) (r1.le w.sub) hk hs rx fin
        | dt rd rk =>
          cases ry
          exact notIn_dict I (by omega) (.dt rd rk) (r1.le w.sub) hk hs rx fin
      · cases hb
    · cases hb
  · split at hb
    · cases hb
      cases r1; cases r2
      exact op_notin_str pins s σ H _ _ v u Q I rx ry ⟨_, _, rfl, rfl, q _ J H (.refl w) (.bl _)⟩
    · cases hb
  · cases hb
end
end Mi

/-! Mi6: displays, subscripts, slices, small built-ins. -/
namespace Mi
open PySem PySem.Spec PyProof.Rows L2

/-! ### displays -/
def mTup (ma : MA) : M := fun cs => match ma cs with
  | some (ds, cs1) => if ds.length ≤ LIM then some (.fz (.tuple ds), cs1) else none
  | none => none
def mLst (ma : MA) : M := fun cs => match ma cs with
  | some (ds, cs1) => if ds.length ≤ LIM then some (.fz (.list ds), cs1) else none
  | none => none
def mLstO (ma : MA) : M := fun cs => match ma cs with
  | some (ds, cs1) => if ds.length ≤ LIM then some (.ow (.l .fz) (.list ds), cs1) else none
  | none => none
def mDk : M := fun cs => some (.ow (.dk .fz) (.dict []), cs)
def mDt : M := fun cs => some (.ow (.dt .fz) (.dict []), cs)
def mDks (s : Sh) : M := fun cs => some (.ow (.dk s) (.dict []), cs)
def mDts (s : Sh) : M := fun cs => some (.ow (.dt s) (.dict []), cs)
section
variable {K : PySem.W.Frag} {J H J' H' : Hp} {en : Ent} {cs : List Cell} {σ : L2.St} {p : Bool} {ta : TA} {ma : MA} {F : Fm} {es : List Expr} {pos : Pos}
theorem All3.fzs : ∀ {vs : List V} {ds : List D}, RpAll K J vs ds → All3 (Ow K J H .fz) vs ds []
  | _, _, .nil => .nil
  | _, _, .cons h r => .cons (F := []) ⟨h, rfl⟩ (All3.fzs r)
/-- a new object beside the view -/
theorem Wf.own {q : Addr} {o : HO} (w : Wf J H) (hq : H q = none) (ho : ∀ xs, o ≠ .tup xs) : Wf J (upd H q o) := by
  have ne : ∀ {a u}, J a = some u → a ≠ q := fun {a u} e z => by rw [z, w.dom q hq] at e; cases e
  refine ⟨⟨fun a u h => ?_, fun a xs h => ?_, fun a xs h => ?_⟩, fun a xs h => ?_, fun a h => ?_⟩
  · have hn : a ≠ q := by
      rcases h with h | ⟨o, h⟩
      · exact ne h
      · exact ne h
    have := w.sub.rd a u h
    unfold Rd at this ⊢
    rw [upd_ne hn]
    exact this
  · rw [upd_ne (ne h)]; exact w.sub.ls a xs h
  · rw [upd_ne (ne h)]; exact w.sub.ts a xs h
  · by_cases e : a = q
    · subst e
      rw [upd_same] at h
      exact absurd (Option.some.inj h) (ho xs)
    · rw [upd_ne e] at h
      exact w.tup a xs h
  · by_cases e : a = q
    · subst e; exact w.dom a hq
    · rw [upd_ne e] at h; exact w.dom a h
theorem Nw.own {q : Addr} {o : HO} (w : Wf J H) (hq : H q = none) (ho : ∀ xs, o ≠ .tup xs) : Nw J H J (upd H q o) := ⟨.refl J, .new hq, w.own hq ho, fun _ h _ => h⟩
/-- new owned data (its objects' addresses G all new) pushed -/
theorem Sta.pushOw {v : V} {s : Sh} {d : D} {G : List Addr} (st : Sta K en cs σ J H) (n : Nw J H J' H') (r : Ow K J' H' s v d G) (hn : G.Nodup) (hG : ∀ a ∈ G, H a = none) : Sta K en (.ow s d :: cs) (some v :: σ) J' H' := by
  have old := st.nw n
  obtain ⟨w, f, th, vw, G1, h1, h2, h3⟩ := st
  obtain ⟨k1, k2⟩ := n.keepOwn h1.at
  refine ⟨n.wf, old.fr, old.th, old.vw, G ++ G1, .ow r (h1.mono n.j k1 k2), List.nodup_append.mpr ⟨hn, h2, fun a ha b hb e => ?_⟩, fun a ha => ?_⟩
  · subst e
    obtain ⟨_, o, e, _⟩ := h1.at a hb
    rw [hG a ha] at e
    cases e
  · rcases List.mem_append.mp ha with ha | ha
    · exact .inr (th a (hG a ha))
    · exact h3 a ha
theorem e_tup (ha : A K p ta ma) : E K p (tTup ta) (mTup ma) := fun cs c cs' hm en σ J H s Q q => by
  unfold mTup at hm
  split at hm
  · next ds cs1 h1 =>
    split at hm
    · next hl =>
      cases hm
      refine ha _ _ _ h1 en σ J H s _ fun vs J1 H1 s1 r1 x1 n1 => ⟨by rw [r1.length]; exact Nat.le_trans hl lim_line, fun a na => ?_⟩
      have n := Nw.new (o := .tup vs) s1.wf na
      exact q _ _ _ ((s1.nw n).pushFz (.tup upd_same (r1.ex n.j))) (x1.trans n.j) (Nw.and n1 fun _ => n)
    · cases hm
  · cases hm
theorem e_lst (ha : A K p ta ma) : E K p (tLst ta) (mLst ma) := fun cs c cs' hm en σ J H s Q q => by
  unfold mLst at hm
  split at hm
  · next ds cs1 h1 =>
    split at hm
    · next hl =>
      cases hm
      refine ha _ _ _ h1 en σ J H s _ fun vs J1 H1 s1 r1 x1 n1 => ⟨by rw [r1.length]; exact Nat.le_trans hl lim_line, fun a na => ?_⟩
      have n := Nw.new (o := .lst vs) s1.wf na
      exact q _ _ _ ((s1.nw n).pushFz (.lst upd_same (r1.ex n.j))) (x1.trans n.j) (Nw.and n1 fun _ => n)
    · cases hm
  · cases hm
theorem e_lstO (ha : A K p ta ma) : E K p (tLst ta) (mLstO ma) := fun cs c cs' hm en σ J H s Q q => by
  unfold mLstO at hm
  split at hm
  · next ds cs1 h1 =>
    split at hm
    · next hl =>
      cases hm
      refine ha _ _ _ h1 en σ J H s _ fun vs J1 H1 s1 r1 x1 n1 => ⟨by rw [r1.length]; exact Nat.le_trans hl lim_line, fun a na => ?_⟩
      have n := Nw.own (o := .lst vs) s1.wf na fun _ z => nomatch z
      exact q _ _ _ (s1.pushOw n (G := [a]) ⟨a, vs, ds, [], rfl, rfl, upd_same, s1.wf.dom a na, All3.fzs r1, rfl⟩ (by simp) (fun b hb => by simp at hb; subst hb; exact na)) (x1.trans n.j) (Nw.and n1 fun _ => n)
    · cases hm
  · cases hm
theorem ex_tup {k : Nat} (h : AX F p es ma) : EX F p (.Tuple es k pos) (mTup ma) := let ⟨_, h1, h2⟩ := h; ⟨_, fun X hX => pe_tup (h1 X hX), e_tup h2⟩
theorem ex_lst (h : AX F p es ma) : EX F p (.List es pos) (mLst ma) := let ⟨_, h1, h2⟩ := h; ⟨_, fun X hX => pe_lst (h1 X hX), e_lst h2⟩
theorem ex_lstO (h : AX F p es ma) : EX F p (.List es pos) (mLstO ma) := let ⟨_, h1, h2⟩ := h; ⟨_, fun X hX => pe_lst (h1 X hX), e_lstO h2⟩
theorem ex_dk (s : Sh) : EX F p (.Dict [] [] pos) (mDks s) := ⟨tDNewK, fun X hX => pe_dnewK, fun cs c cs' hm en σ J H st Q q => by
  cases hm
  intro a na
  have n := Nw.own (o := .dK []) st.wf na fun _ z => nomatch z
  exact q _ _ _ (st.pushOw n (G := [a]) ⟨a, [], [], [], rfl, rfl, upd_same, st.wf.dom a na, .nil, rfl⟩ (by simp) (fun b hb => by simp at hb; subst hb; exact na)) n.j fun _ => n⟩
theorem ex_dt (s : Sh) : EX F p (.Dict [] [] pos) (mDts s) := ⟨tDNewT, fun X hX => pe_dnewT, fun cs c cs' hm en σ J H st Q q => by
  cases hm
  intro a na
  have n := Nw.own (o := .dT []) st.wf na fun _ z => nomatch z
  exact q _ _ _ (st.pushOw n (G := [a]) ⟨a, [], [], [], rfl, rfl, upd_same, st.wf.dom a na, .nil, rfl⟩ (by simp) (fun b hb => by simp at hb; subst hb; exact na)) n.j fun _ => n⟩
end

/-! ### subscripts -/
def strAt (x : Str) (i : Int) : Option D := (atI x.cps.toList i).map fun c => .str ⟨#[c]⟩
def ixD : D → D → Option D
  | .list ds, .int i => atI ds i
  | .tuple ds, .int i => atI ds i
  | .str x, .int i => if x.length ≤ LIM then strAt x i else none
  | .dict es, k => match kOf k with
    | some q => findD es q
    | none => none
  | _, _ => none
section
variable {X : Cx} {K : PySem.W.Frag} {J H : Hp}
theorem RpAll.atI {xs : List V} {ds : List D} {i : Int} {d : D} (h : RpAll K J xs ds) (e : L2.atI ds i = some d) : ∃ v, L2.atI xs i = some v ∧ Rp K J v d := by
  unfold L2.atI at e ⊢
  rw [h.length]
  cases hx : ixN ds.length i with
  | none => rw [hx] at e; cases e
  | some j =>
    rw [hx] at e
    exact h.get (i := j) e
theorem find_dt {k : Key} : ∀ {kvs : List (List Key × V)} {es : List (D × D)}, RpT K J kvs es → findD es (.inl k) = none
  | _, _, .nil => rfl
  | _, _, .cons _ r => by
    unfold findD
    rw [kOf_tuple, if_neg (by simp)]
    exact find_dt r
theorem find_dk {k : List Key} : ∀ {kvs : List (Key × V)} {es : List (D × D)}, RpK K J kvs es → findD es (.inr k) = none
  | _, _, .nil => rfl
  | _, _, .cons _ r => by
    unfold findD
    rw [kOf_keyD, if_neg (by simp)]
    exact find_dk r
theorem get_dict {pins : List (Addr × Obj)} {σ : L2.St} {s : Shared} {a : Addr} {es : List (D × D)} {y : V} {k z : D} {q : KK} {u : Value} {A : Around} {E : Value → Shared → Prop} {Q : Value → Shared → Prop} (I : Inv X pins σ H s) (hu : A.units + 1 < cLine)
    (r : Rp X.K J (.ref a) (.dict es)) (w : Le J H) (ry : Rp X.K J y k) (hk : kOf k = some q) (hf : findD es q = some z) (rv : RelV y u) (h : ∀ v s' w', Inv X pins σ H s' → Rp X.K J v z → RelV v w' → Q w' s') :
    s.TypeIs (.ref a) "dict" ∧ wpAny (model X.prog X.w) A (getItem (.ref a) u) Q E s := by
  cases q with
  | inl kk =>
    have e1 := kOf_inl hk
    subst e1
    have e2 := ry.keyV
    subst e2
    cases r with
    | @dk _ kvs _ rd rk =>
      have l := look_dk (k := kk) rk
      rw [hf] at l
      cases hv : valV kvs kk with
      | none => rw [hv] at l; exact l.elim
      | some v =>
        rw [hv] at l
        have g : DGet H a (kV kk) (some v) := .inl ⟨_, kk, w.rd _ _ rd, rfl, hv.symm⟩
        exact ⟨dict_typeIs I g, d_getItem hu I g rv fun w' s' I' rw' => h v s' w' I' l rw'⟩
    | dt rd rt => rw [find_dt rt] at hf; cases hf
  | inr kk =>
    have e1 := kOf_inr hk
    subst e1
    obtain ⟨b, rfl, hb⟩ := ry.keyT
    cases r with
    | @dt _ kvs _ rd rt =>
      have l := look_dt (k := kk) rt
      rw [hf] at l
      cases hv : valV kvs kk with
      | none => rw [hv] at l; exact l.elim
      | some v =>
        rw [hv] at l
        have g : DGet H a (.ref b) (some v) := .inr ⟨_, kk, b, w.rd _ _ rd, rfl, w.ts _ _ hb, hv.symm⟩
        exact ⟨dict_typeIs I g, d_getItem hu I g rv fun w' s' I' rw' => h v s' w' I' l rw'⟩
    | dk rd rk => rw [find_dk rk] at hf; cases hf
theorem ix_D (hu : X.A.units + 65 < cLine) : IxR X (RV2 X.K ixD) := fun value slice pins s σ H x y v u Q I rx ry h hs => by
  obtain ⟨J, d, e, z, w, r1, r2, hf, q⟩ := h
  unfold ixD at hf
  split at hf
  · cases r2
    cases r1 with
    | lst h1 a1 =>
      obtain ⟨v1, e1, q1⟩ := a1.atI hf
      exact ix_list value slice pins s σ H _ _ v u Q I rx ry ⟨_, _, _, v1, rfl, rfl, SqL.of (w.sub.ls _ _ h1), e1, q v1 J H (.refl w) q1⟩ hs
  · cases r2
    cases r1 with
    | tup h1 a1 =>
      obtain ⟨v1, e1, q1⟩ := a1.atI hf
      exact ix_tup value slice pins s σ H _ _ v u Q I rx ry ⟨_, _, _, v1, rfl, rfl, SqT.of (w.sub.ts _ _ h1), e1, q v1 J H (.refl w) q1⟩ hs
  · cases r2
    cases r1
    split at hf
    · next hl =>
      unfold strAt at hf
      obtain ⟨c, hc, hz⟩ := Option.map_eq_some_iff.mp hf
      subst hz
      exact ix_str value slice pins s σ H _ _ v u Q I rx ry ⟨_, _, c, rfl, rfl, Nat.le_trans hl lim_line, hc, q _ J H (.refl w) (.str _)⟩ hs
    · cases hf
  · split at hf
    · next kk hk =>
      have fin : ∀ a, Rp X.K J (.ref a) (.dict _) → v = .ref a → wpAny (model X.prog X.w) X.A (subscriptTail value slice v u) (EP X pins σ Q) X.xe s := fun a r ev => by
        subst ev
        obtain ⟨t1, t2⟩ := get_dict (A := X.A) (E := X.xe) (Q := EP X pins σ Q) I (by omega) r w.sub r2 hk hf ry fun v1 s' w' I' l rw' => ⟨v1, H, I', rw', q v1 J H (.refl w) l⟩
        exact tail_any t1 PySem.F.slot_dict_getitem.lookup t2 hs
      cases r1 with
      | dk rd rk => exact fin _ (.dk rd rk) rx
      | dt rd rk => exact fin _ (.dt rd rk) rx
    · cases hf
  · cases hf
variable {F : Fm} {p : Bool} {a b : Expr} {ma mb : M} {pos : Pos}
theorem ex_ix (ha : EX F p a ma) (hb : EX F p b mb) (hs : PlainIx b) : EX F p (.Subscript a b pos) (mOp ixD ma mb) := by
  obtain ⟨t1, h1, g1⟩ := ha
  obtain ⟨t2, h2, g2⟩ := hb
  exact ⟨tOp (RV2 F.K ixD) t1 t2, fun X hX => by
    have hr := (F.room X hX).un
    rw [← F.hK X hX]
    exact pe_ix (ix_D (by omega)) (h1 X hX) (h2 X hX) hs, e_op g1 g2⟩

/-! ### slices -/
def cutD (ds : List D) (lo hi : Option Int) : List D := (ds.drop (HT.sIx ds.length 0 lo)).take (HT.sIx ds.length ds.length hi - HT.sIx ds.length 0 lo)
def slD : D → Option Int → Option Int → Option D
  | .list ds, lo, hi => some (.list (cutD ds lo hi))
  | .tuple ds, lo, hi => some (.tuple (cutD ds lo hi))
  | .str x, lo, hi => if x.length ≤ LIM then some (.str (cutS x lo hi)) else none
  | _, _, _ => none
abbrev MO := List Cell → Option (Option Int × List Cell)
def O (K : PySem.W.Frag) (p : Bool) (to : TO) (m : MO) : Prop :=
  ∀ cs b cs', m cs = some (b, cs') → ∀ en σ J H, Sta K en cs σ J H → ∀ Q : Option Int → Hp → Prop,
    (∀ J' H', Sta K en cs' σ J' H' → Ex J J' → (p = true → Nw J H J' H') → Q b H') → to σ H Q
def OX (F : Fm) (p : Bool) (e : Option Expr) (m : MO) : Prop := ∃ te, (∀ X, F.mem X → PO X e te) ∧ O F.K p te m
def mONo : MO := fun cs => some (none, cs)
def mOSome (m : M) : MO := fun cs => match m cs with
  | some (.fz (.int i), cs1) => some (some i, cs1)
  | _ => none
theorem ox_none : OX F p none mONo := ⟨_, fun _ _ => po_none, fun cs b cs' hm en σ J H s Q q => by
  cases hm
  exact q J H s (.refl J) fun _ => .refl s.wf⟩
theorem ox_some (h : EX F p a ma) : OX F p (some a) (mOSome ma) := by
  obtain ⟨te, h1, h2⟩ := h
  refine ⟨_, fun X hX => po_some (h1 X hX), fun cs b cs' hm en σ J H s Q q => ?_⟩
  unfold mOSome at hm
  split at hm
  · next i cs1 he =>
    cases hm
    refine h2 _ _ _ he en σ J H s _ fun v J1 H1 s1 x1 n1 => ?_
    cases s1.headFz
    exact ⟨i, rfl, q J1 H1 s1.pop x1 n1⟩
  · cases hm
def mSl (ma : M) (ml mh : MO) : M := fun cs => match ma cs with
  | some (.fz x, cs1) => match ml cs1 with
    | some (lo, cs2) => match mh cs2 with
      | some (hi, cs3) => match slD x lo hi with
        | some z => some (.fz z, cs3)
        | none => none
      | none => none
    | none => none
  | _ => none
def RVsl (K : PySem.W.Frag) : V → Option Int → Option Int → Hp → VK → Prop := fun x lo hi H Q => ∃ J d z, Wf J H ∧ Rp K J x d ∧ slD d lo hi = some z ∧ ∀ u J' H', Nw J H J' H' → Rp K J' u z → Q u H'
theorem RpAll.cut {xs : List V} {ds : List D} (h : RpAll K J xs ds) (lo hi : Option Int) : RpAll K J (cutV xs lo hi) (cutD ds lo hi) := by
  unfold cutV cutD
  rw [h.length]
  exact (h.drop _).take _
theorem cut_whole {xs : List V} {l : List D} {lo hi : Option Int} (h : xs.length = l.length) (hw : HT.sIx xs.length 0 lo = 0 ∧ HT.sIx xs.length xs.length hi = xs.length) : cutD l lo hi = l := by
  unfold cutD
  rw [← h, hw.1, hw.2, List.drop_zero, Nat.sub_zero, h]
  exact List.take_length
theorem sl_D : SlR X (RVsl X.K) := fun pins s σ H x v vl vu lo hi sl Q I rx hs pl pu h => by
  obtain ⟨J, d, z, w, r1, hf, q⟩ := h
  unfold slD at hf
  split at hf
  · cases hf
    cases r1 with
    | lst h1 a1 => exact sl_list pins s σ H _ v vl vu _ _ sl Q I rx hs pl pu ⟨_, _, rfl, SqL.of (w.sub.ls _ _ h1), fun p hp => new_lst w hp (a1.cut _ _) q⟩
  · cases hf
    cases r1 with
    | tup h1 a1 =>
      refine sl_tupA pins s σ H _ v vl vu _ _ sl Q I rx hs pl pu ⟨_, _, rfl, SqT.of (w.sub.ts _ _ h1), fun hw => ?_, fun _ p hp => new_tup w hp (a1.cut _ _) q⟩
      rw [cut_whole a1.length hw] at q
      exact q _ J H (.refl w) (.tup h1 a1)
  · split at hf
    · next hl =>
      cases hf
      cases r1
      exact sl_str pins s σ H _ v vl vu _ _ sl Q I rx hs pl pu ⟨_, rfl, Nat.le_trans hl lim_line, q _ J H (.refl w) (.str _)⟩
    · cases hf
  · cases hf
theorem ex_sl {lo hi : Option Expr} {ml mh : MO} {p2 : Pos} (ha : EX F p a ma) (hl : OX F p lo ml) (hh : OX F p hi mh) : EX F p (.Subscript a (.Slice lo hi none p2) pos) (mSl ma ml mh) := by
  obtain ⟨t1, h1, g1⟩ := ha
  obtain ⟨t2, h2, g2⟩ := hl
  obtain ⟨t3, h3, g3⟩ := hh
  refine ⟨tSl (RVsl F.K) t1 t2 t3, fun X hX => ?_, fun cs c cs' hm en σ J H s Q q => ?_⟩
  · rw [← F.hK X hX]
    exact pe_slice sl_D (h1 X hX) (h2 X hX) (h3 X hX)
  · unfold mSl at hm
    split at hm
    · next x cs1 e1 =>
      split at hm
      · next l cs2 e2 =>
        split at hm
        · next u cs3 e3 =>
          split at hm
          · next z e4 =>
            cases hm
            refine g1 _ _ _ e1 en σ J H s _ fun v1 J1 H1 s1 x1 n1 => ?_
            refine g2 _ _ _ e2 en σ J1 H1 s1.pop _ fun J2 H2 s2 x2 n2 => ?_
            refine g3 _ _ _ e3 en σ J2 H2 s2 _ fun J3 H3 s3 x3 n3 => ?_
            exact ⟨J3, x, z, s3.wf, (s1.headFz.ex x2).ex x3, e4, fun u J4 H4 n4 r4 => q u J4 H4 ((s3.nw n4).pushFz r4) (((x1.trans x2).trans x3).trans n4.j) (Nw.and (Nw.and (Nw.and n1 n2) n3) fun _ => n4)⟩
          · cases hm
        · cases hm
      · cases hm
    · cases hm
end

/-! ### small built-ins -/
def lenD : List D → Option D
  | [.str x] => if x.length ≤ LIM then some (.int x.length) else none
  | [.list ds] => some (.int ds.length)
  | [.tuple ds] => some (.int ds.length)
  | [.dict es] => some (.int es.length)
  | _ => none
def intD : List D → Option D
  | [.int i] => some (.int i)
  | [.bool b] => some (.int (if b then 1 else 0))
  | _ => none
def strL (x : Str) : List D := x.cps.toList.map fun c => .str ⟨#[c]⟩
def listD : List D → Option D
  | [.list ds] => some (.list ds)
  | [.tuple ds] => some (.list ds)
  | _ => none
def tupleD : List D → Option D
  | [.list ds] => some (.tuple ds)
  | [.tuple ds] => some (.tuple ds)
  | _ => none
def boolsOf : List D → Option (List Bool)
  | [] => some []
  | .bool b :: ds => (boolsOf ds).map (b :: ·)
  | _ :: _ => none
def anyD : List D → Option D
  | [.list ds] => (boolsOf ds).map fun bs => .bool (bs.any id)
  | _ => none
def allD : List D → Option D
  | [.list ds] => (boolsOf ds).map fun bs => .bool (bs.all id)
  | _ => none
section
variable {X : Cx} {K : PySem.W.Frag} {J H : Hp}
theorem RpK.length : ∀ {kvs : List (Key × V)} {es : List (D × D)}, RpK K J kvs es → kvs.length = es.length
  | _, _, .nil => rfl
  | _, _, .cons _ r => by rw [List.length_cons, List.length_cons, RpK.length r]
theorem RpT.length : ∀ {kvs : List (List Key × V)} {es : List (D × D)}, RpT K J kvs es → kvs.length = es.length
  | _, _, .nil => rfl
  | _, _, .cons _ r => by rw [List.length_cons, List.length_cons, RpT.length r]
theorem call_lenD : CallR X (.builtin "len") (RVn X.K lenD) := fun pins s σ H xs us Q I rx h => by
  obtain ⟨J, ds, z, w, r, hf, q⟩ := h
  unfold lenD at hf
  split at hf
  · split at hf
    · next hl =>
      cases hf
      cases r with
      | cons r1 r2 =>
        cases r2; cases r1
        exact call_len pins s σ H _ us Q I rx ⟨_, _, rfl, ⟨Nat.le_trans hl lim_line, rfl⟩, q _ J H (.refl w) (.int _)⟩
    · cases hf
  · cases hf
    cases r with
    | cons r1 r2 =>
      cases r2
      cases r1 with
      | lst h1 a1 => exact call_len_seq pins s σ H _ us Q I rx ⟨_, _, rfl, .inl (SqL.of (w.sub.ls _ _ h1)), by rw [a1.length]; exact q _ J H (.refl w) (.int _)⟩
  · cases hf
    cases r with
    | cons r1 r2 =>
      cases r2
      cases r1 with
      | tup h1 a1 => exact call_len_seq pins s σ H _ us Q I rx ⟨_, _, rfl, .inr (SqT.of (w.sub.ts _ _ h1)), by rw [a1.length]; exact q _ J H (.refl w) (.int _)⟩
  · cases hf
    cases r with
    | cons r1 r2 =>
      cases r2
      obtain ⟨u, rfl, ru⟩ := vals1 rx
      cases r1 with
      | dk rd rk =>
        cases ru
        exact d_len I (w.sub.rd _ _ rd) fun t s' I' => ⟨.int _, H, I', ⟨t, rfl⟩, by rw [rk.length]; exact q _ J H (.refl w) (.int _)⟩
      | dt rd rk =>
        cases ru
        obtain ⟨z, hd, ys, rel, dd⟩ := dt_rd I.hok (w.sub.rd _ _ rd)
        have hl := Paired.length rel
        refine call_len_dictH hd dd (by rw [← hl]; rw [sizeLine_eq] at z; omega) ?_
        rw [← hl]
        exact ⟨.int _, H, I.tok _, ⟨_, rfl⟩, by rw [rk.length]; exact q _ J H (.refl w) (.int _)⟩
  · cases hf
theorem call_intD : CallR X (.type "int") (RVn X.K intD) := fun pins s σ H xs us Q I rx h => by
  obtain ⟨J, ds, z, w, r, hf, q⟩ := h
  unfold intD at hf
  split at hf
  · cases hf
    cases r with
    | cons r1 r2 =>
      cases r2; cases r1
      exact call_int1 pins s σ H _ us Q I rx (.inl ⟨_, rfl, q _ J H (.refl w) (.int _)⟩)
  · cases hf
    cases r with
    | cons r1 r2 =>
      cases r2; cases r1
      exact call_int1 pins s σ H _ us Q I rx (.inr ⟨_, rfl, q _ J H (.refl w) (.int _)⟩)
  · cases hf
theorem call_listD' : CallR X (.type "list") (RVn X.K listD) := fun pins s σ H xs us Q I rx h => by
  obtain ⟨J, ds, z, w, r, hf, q⟩ := h
  unfold listD at hf
  split at hf
  · cases hf
    cases r with
    | cons r1 r2 =>
      cases r2
      cases r1 with
      | lst h1 a1 => exact call_list_of pins s σ H _ us Q I rx ⟨_, _, rfl, .inl (SqL.of (w.sub.ls _ _ h1)), fun p hp => new_lst w hp a1 q⟩
  · cases hf
    cases r with
    | cons r1 r2 =>
      cases r2
      cases r1 with
      | tup h1 a1 => exact call_list_of pins s σ H _ us Q I rx ⟨_, _, rfl, .inr (SqT.of (w.sub.ts _ _ h1)), fun p hp => new_lst w hp a1 q⟩
  · cases hf
theorem call_tupleD : CallR X (.type "tuple") (RVn X.K tupleD) := fun pins s σ H xs us Q I rx h => by
  obtain ⟨J, ds, z, w, r, hf, q⟩ := h
  unfold tupleD at hf
  split at hf
  · cases hf
    cases r with
    | cons r1 r2 =>
      cases r2
      cases r1 with
      | lst h1 a1 => exact call_tuple_of pins s σ H _ us Q I rx ⟨_, _, rfl, .inl ⟨SqL.of (w.sub.ls _ _ h1), fun p hp => new_tup w hp a1 q⟩⟩
  · cases hf
    cases r with
    | cons r1 r2 =>
      cases r2
      cases r1 with
      | tup h1 a1 => exact call_tuple_of pins s σ H _ us Q I rx ⟨_, _, rfl, .inr ⟨SqT.of (w.sub.ts _ _ h1), q _ J H (.refl w) (.tup h1 a1)⟩⟩
  · cases hf
theorem RpAll.bools : ∀ {vs : List V} {ds : List D} {bs : List Bool}, RpAll K J vs ds → boolsOf ds = some bs → vs = bs.map V.bl
  | _, _, _, .nil, h => by cases h; rfl
  | _, _, bs, .cons (d := d) h r, e => by
    unfold boolsOf at e
    split at e
    · next heq => cases heq
    · next b ds' heq =>
      cases heq
      obtain ⟨bs', e1, e2⟩ := Option.map_eq_some_iff.mp e
      subst e2
      cases h
      rw [List.map_cons, RpAll.bools r e1]
    · cases e
theorem call_anyD (hc : X.calm = true) : CallR X (.builtin "any") (RVn X.K anyD) := fun pins s σ H xs us Q I rx h => by
  obtain ⟨J, ds, z, w, r, hf, q⟩ := h
  unfold anyD at hf
  split at hf
  · obtain ⟨bs, e1, e2⟩ := Option.map_eq_some_iff.mp hf
    subst e2
    cases r with
    | cons r1 r2 =>
      cases r2
      cases r1 with
      | lst h1 a1 =>
        have e3 := a1.bools e1
        subst e3
        exact cr_any hc pins s σ H _ us Q I rx ⟨_, bs, rfl, SqL.of (w.sub.ls _ _ h1), q _ J H (.refl w) (.bl _)⟩
  · cases hf
theorem call_allD (hc : X.calm = true) : CallR X (.builtin "all") (RVn X.K allD) := fun pins s σ H xs us Q I rx h => by
  obtain ⟨J, ds, z, w, r, hf, q⟩ := h
  unfold allD at hf
  split at hf
  · obtain ⟨bs, e1, e2⟩ := Option.map_eq_some_iff.mp hf
    subst e2
    cases r with
    | cons r1 r2 =>
      cases r2
      cases r1 with
      | lst h1 a1 =>
        have e3 := a1.bools e1
        subst e3
        exact cr_all hc pins s σ H _ us Q I rx ⟨_, bs, rfl, SqL.of (w.sub.ls _ _ h1), q _ J H (.refl w) (.bl _)⟩
  · cases hf
variable {F : Fm} {p : Bool} {e : Expr} {es : List Expr} {ma : MA} {x : Str} {pn pos : Pos}
/-- a built-in function or type called by its name -/
theorem ex_callB {id : String} {f : List D → Option D} (hc : ∀ X, F.mem X → CallR X (.builtin id) (RVn X.K f)) (hg : F.sc.names.lookup x = some .globalImplicit) (hm : F.mg x = none) (hv : bootBuiltins x = some (.builtin id)) (ha : AX F p (e :: es) ma) (hn : x ≠ "__name__") (hdb : (x == ("__debug__" : Str)) = false)
    (he : ∀ env, starEach (e :: es) env = (false, eval e env) :: starEach es env) (hpl : ∀ env, (backTo pos (starEach es env)).any (·.1) = false) : EX F p (.Call (.Name x pn) (e :: es) [] pos) (mCall f ma) := by
  obtain ⟨t, h1, h2⟩ := ha
  refine ⟨tCB (RVn F.K f) t, fun X hX => ?_, e_callB h2⟩
  rw [← F.hK X hX]
  exact pe_callB (hc X hX) (by show X.env.scope.names.lookup x = _; rw [F.hsc X hX]; exact hg) (by rw [F.hmg X hX]; exact hm) hv (h1 X hX) hn hdb (he _) (hpl _)
theorem ex_callTy {T : String} {f : List D → Option D} (hc : ∀ X, F.mem X → CallR X (.type T) (RVn X.K f)) (hg : F.sc.names.lookup x = some .globalImplicit) (hm : F.mg x = none) (hv : bootBuiltins x = some (.type T)) (ha : AX F p (e :: es) ma) (hn : x ≠ "__name__") (hdb : (x == ("__debug__" : Str)) = false)
    (he : ∀ env, starEach (e :: es) env = (false, eval e env) :: starEach es env) (hpl : ∀ env, (backTo pos (starEach es env)).any (·.1) = false) : EX F p (.Call (.Name x pn) (e :: es) [] pos) (mCall f ma) := by
  obtain ⟨t, h1, h2⟩ := ha
  refine ⟨tCB (RVn F.K f) t, fun X hX => ?_, e_callB h2⟩
  rw [← F.hK X hX]
  exact pe_callTy (hc X hX) (by show X.env.scope.names.lookup x = _; rw [F.hsc X hX]; exact hg) (by rw [F.hmg X hX]; exact hm) hv (h1 X hX) hn hdb (he _) (hpl _)
end
end Mi

/-! Mi7: what is walked: sequences, texts, ranges, enumerate, zip. -/
namespace Mi
open PySem PySem.Spec PyProof.Rows L2

/-- what the iterator `it` hands out: the items ds, in any state that grows out of the view J -/
def Iter (K : PySem.W.Frag) (it : It) (ds : List D) (J : Hp) : Prop := ∀ J2 H2, Wf J2 H2 → Ex J J2 →
  (∀ i d, ds[i]? = some d → it.go i H2 ∧ ∀ x H3, it.yld i H2 x H3 → ∃ J3, Nw J2 H2 J3 H3 ∧ Rp K J3 x d) ∧ it.stop ds.length H2
abbrev MI := List Cell → Option (List D × List Cell)
def I (K : PySem.W.Frag) (p : Bool) (wi : TI) (m : MI) : Prop :=
  ∀ cs ds cs', m cs = some (ds, cs') → ∀ en σ J H, Sta K en cs σ J H → ∀ R : It → Hp → Prop,
    (∀ it J' H', Sta K en cs' σ J' H' → Ex J J' → (p = true → Nw J H J' H') → Iter K it ds J' → R it H') → wi σ H R
def IX (F : Fm) (p : Bool) (tg e : Expr) (m : MI) : Prop := ∃ wi, (∀ X, F.mem X → PI X tg e wi) ∧ I F.K p wi m

/-! ### a sequence's or a text's own iterator, for enumerate and zip -/
/-- the iterator at `it` draws the values xs while G holds of the abstract heap -/
structure Dw (P : Program) (w : World) (K : PySem.W.Frag) (it : Addr) (xs : List V) (G : Hp → Prop) (tn : Nat → Heap → Prop) : Prop where
  keep : ∀ i h h', tn i h → (∀ o, h.get? it = some o → h'.get? it = some o) → tn i h'
  live : ∀ i h, tn i h → ∃ o, h.get? it = some o ∧ ∀ v, o.data ≠ .cell v
  src : ∀ (X : Cx) pins σ H s, X.prog = P → X.w = w → X.K = K → Inv X pins σ H s → G H → H it = none → it < s.heap.objs.size → ∃ (fp : List Addr) (S : Heap → Prop) (Pd : Nat → Value → Prop),
    (∀ A, A.handled = none → Draws P w A it fp xs.length Pd (fun i h => tn i h ∧ S h)) ∧ it ∈ fp ∧ S s.heap ∧ (∀ b ∈ fp, b ≠ it → b < s.heap.objs.size ∧ (H b ≠ none ∨ ∃ o, X.K.lookup b = some o)) ∧ ∀ i v, Pd i v → ∃ x, xs[i]? = some x ∧ RelV x v
section
variable {P : Program} {w : World} {K : PySem.W.Frag}
theorem dw_tup (it a : Addr) (xs : List V) : Dw P w K it xs (fun H => H a = some (.tup xs)) (fun i h => h.IsTupleIter it a i) where
  keep := fun i h h' x k => x.at fun o e => k o e
  live := fun i h ⟨o, ho, _, hd⟩ => ⟨o, ho, fun v e => by rw [hd] at e; cases e⟩
  src := fun X pins σ H s hP hw hK I hG hit hl => by
    obtain ⟨its, rv, p, _⟩ := I.tuple (SqT.of hG)
    have hne : a ≠ it := fun e => by rw [e, hit] at hG; cases hG
    have hlen : xs.length = its.toArray.size := by rw [List.size_toArray]; exact rv.length
    refine ⟨[it, a], fun h => h.IsTuple a its.toArray, fun i v => its.toArray[i]? = some v, fun A hh => ?_, by simp, p, fun b hb hn => ?_, fun i v hv => ?_⟩
    · rw [hlen]
      exact Draws.tuple hh it a hne its.toArray
    · simp only [List.mem_cons, List.not_mem_nil, or_false] at hb
      rcases hb with hb | hb
      · exact absurd hb hn
      · rw [hb]
        exact ⟨I.hok.lt hG, .inl (by rw [hG]; exact fun z => nomatch z)⟩
    · have hv' : its[i]? = some v := by simpa using hv
      cases hx : xs[i]? with
      | none => rw [rv.none_of hx] at hv'; cases hv'
      | some x =>
        obtain ⟨u, e1, e2⟩ := rv.get hx
        rw [hv'] at e1
        cases e1
        exact ⟨x, rfl, e2⟩
theorem dw_lst (it a : Addr) (xs : List V) : Dw P w K it xs (fun H => H a = some (.lst xs)) (fun i h => h.IsListIter it a i) where
  keep := fun i h h' x k => x.at fun o e => k o e
  live := fun i h ⟨o, ho, _, hd⟩ => ⟨o, ho, fun v e => by rw [hd] at e; cases e⟩
  src := fun X pins σ H s hP hw hK I hG hit hl => by
    obtain ⟨its, rv, p, _⟩ := I.list (SqL.of hG)
    have hne : a ≠ it := fun e => by rw [e, hit] at hG; cases hG
    have hlen : xs.length = its.toArray.size := by rw [List.size_toArray]; exact rv.length
    refine ⟨[it, a], fun h => h.IsList a its.toArray, fun i v => its.toArray[i]? = some v, fun A hh => ?_, by simp, p.isList, fun b hb hn => ?_, fun i v hv => ?_⟩
    · rw [hlen]
      exact Draws.list hh it a hne its.toArray
    · simp only [List.mem_cons, List.not_mem_nil, or_false] at hb
      rcases hb with hb | hb
      · exact absurd hb hn
      · rw [hb]
        exact ⟨I.hok.lt hG, .inl (by rw [hG]; exact fun z => nomatch z)⟩
    · have hv' : its[i]? = some v := by simpa using hv
      cases hx : xs[i]? with
      | none => rw [rv.none_of hx] at hv'; cases hv'
      | some x =>
        obtain ⟨u, e1, e2⟩ := rv.get hx
        rw [hv'] at e1
        cases e1
        exact ⟨x, rfl, e2⟩
def strV (x : Str) : List V := x.cps.toList.map fun c => V.str ⟨#[c]⟩
theorem dw_str (it : Addr) (x : Str) (t : Tok) : Dw P w K it (strV x) (fun _ => True) (fun i h => h.IsStrIter it (strIterType x) x t i) where
  keep := fun i h h' ⟨o, ho, hc, hd⟩ k => ⟨o, k o ho, hc, hd⟩
  live := fun i h ⟨o, ho, _, hd⟩ => ⟨o, ho, fun v e => by rw [hd] at e; cases e⟩
  src := fun X pins σ H s hP hw hK I hG hit hl => by
    have hlen : (strV x).length = x.cps.size := by simp [strV]
    refine ⟨[it], fun _ => True, fun i v => ∃ c u, x.cps[i]? = some c ∧ v = .str ⟨#[c]⟩ u, fun A hh => ?_, by simp, trivial, fun b hb hn => ?_, fun i v ⟨c, u, hc, hv⟩ => ?_⟩
    · rw [hlen]
      have q := Draws.text (prog := P) (w := w) hh it x t
      exact ⟨fun i h s => q.live i h s.1, fun i h h' s k => ⟨q.frame i h h' s.1 k, trivial⟩, fun i s Q E hi st hQ => q.item i s Q E hi st.1 fun x h' tk h1 h2 h3 => hQ x h' tk h1 ⟨h2, trivial⟩ h3, fun s Q E st hE => q.done s Q E st.1 hE⟩
    · simp at hb
      exact absurd hb hn
    · refine ⟨.str ⟨#[c]⟩, ?_, ⟨u, hv⟩⟩
      unfold strV
      rw [List.getElem?_map]
      have : x.cps.toList[i]? = some c := by simpa using hc
      rw [this]
      rfl
/-- pairs of a number and an item, each in a new tuple -/
def ItE (G : Hp → Prop) (xs : List V) : It :=
  ⟨fun i H => G H ∧ i < xs.length, fun i H v H' => ∃ T x, v = .ref T ∧ H T = none ∧ H' = upd H T (.tup [.int (i : Nat), x]) ∧ xs[i]? = some x, fun i H => G H ∧ i = xs.length⟩
theorem fp_apart {X : Cx} {pins : List (Addr × Obj)} {H : Hp} {s : Shared} {σ : L2.St} (I : Inv X pins σ H s) {b : Addr} (h : H b ≠ none ∨ ∃ o, X.K.lookup b = some o) (hf : FpOk X pins H b) (hb : X.s_0.heap.objs.size ≤ b ∨ b ∈ X.ex) : False := by
  rcases h with h | ⟨o, h⟩
  · exact h hf.1
  · have e := I.ok.mod.kin b o h
    rcases hb with hb | hb
    · have l := Heap.lt_size e
      have l2 := I.ok.bsz
      exact absurd (Nat.lt_of_lt_of_le l (Nat.le_trans l2 hb)) (Nat.lt_irrefl _)
    · exact I.ok.noex b o e hb
theorem turn_en {elts : List Expr} {kk : Nat} {tpos : Pos} {e it : Addr} {xs : List V} {G : Hp → Prop} {tn : Nat → Heap → Prop} (dw : Dw P w K it xs G tn) :
    Turn P w K (.Tuple elts kk tpos) (ItE G xs) [e, it] e (fun i h => (∃ old, IsEnum h e it ((i : Nat) : Int) old) ∧ tn i h ∧ e ≠ it) where
  mem := by simp
  obj := fun i h st b hb => by
    obtain ⟨⟨old, he⟩, hi, _⟩ := st
    have e' : b = e ∨ b = it := by simpa using hb
    rcases e' with z | z
    · rw [z]; exact ⟨_, he, fun v q => nomatch q⟩
    · rw [z]; exact dw.live i h hi
  keep := fun i h h' st k => let ⟨⟨old, he⟩, hi, hne⟩ := st; ⟨⟨old, k e (by simp) _ he⟩, dw.keep i h h' hi fun o q => k it (by simp) o q, hne⟩
  item := by
    intro X hP hw hK hc i pins s σ H E I hf st hg
    obtain ⟨⟨old, he⟩, hit, hne⟩ := st
    obtain ⟨hG, hi⟩ := hg
    have hel : e < s.heap.objs.size := Heap.lt_size he
    obtain ⟨oi, hoi, _⟩ := dw.live i _ hit
    have hil : it < s.heap.objs.size := Heap.lt_size hoi
    obtain ⟨fp, S, Pd, dr, m1, hS, m2, hP2⟩ := dw.src X pins σ H s hP hw hK I hG (hf it (by simp)).1 hil
    have hef : e ∉ fp := fun hm => by
      obtain ⟨_, q⟩ := m2 e hm hne
      exact fp_apart I q (hf e (by simp)) ((hf e (by simp)).2.2.2.1.elim .inr .inl)
    subst hP hw hK
    have st0 : (∃ old, IsEnum s.heap e it ((0 : Int) + (i : Int)) old) ∧ tn i s.heap ∧ S s.heap := ⟨⟨old, by rw [Int.zero_add]; exact he⟩, hit, hS⟩
    refine (GoesN.enumFrom 0 (dr X.A.in1 (I.ok.hd hc)) e hne hef m1).goes i s (fun u s2 => ∃ x H', Inv X pins σ H' s2 ∧ RelV x u ∧ (ItE G xs).yld i H x H' ∧ ((∃ old, IsEnum s2.heap e it (((i + 1 : Nat)) : Int) old) ∧ tn (i + 1) s2.heap ∧ e ≠ it) ∧ ∀ b ∈ [e, it], H' b = none) E hi st0 fun v h' tk hY hst hk htk => ?_
    obtain ⟨T, t, u, ev, hT, hu, hTup⟩ := hY
    obtain ⟨x, hx, ru⟩ := hP2 i u hu
    subst ev
    have new : ObjOk X.prog X.w (upd H T (.tup [.int (i : Nat), x])) h' T (.tup [.int (i : Nat), x]) := by
      obtain ⟨o, h1, h2, n, h3⟩ := hTup
      refine ⟨by show 2 ≤ sizeLine; decide, [.int (i : Nat) t, u], .cons ⟨_, rfl⟩ (.cons ru .nil), o, h1, h2, n, ?_⟩
      rw [h3, Int.zero_add]
    have I1 : Inv X pins σ (upd H T (.tup [.int (i : Nat), x])) { s with heap := h', toks := tk } := I.turnedNew (ch := [e, it]) hk hf hT new
    refine ⟨.ref T, _, I1, rfl, ⟨T, x, rfl, I.hok.fresh hT, rfl, hx⟩, ⟨?_, hst.2.1, hne⟩, fun b hb => ?_⟩
    · obtain ⟨o2, q⟩ := hst.1
      refine ⟨o2, ?_⟩
      rw [Int.zero_add] at q
      exact q
    · have hb' : b < s.heap.objs.size := by
        have e' : b = e ∨ b = it := by simpa using hb
        rcases e' with z | z
        · rw [z]; exact hel
        · rw [z]; exact hil
      rw [upd_ne (Nat.ne_of_lt (Nat.lt_of_lt_of_le hb' hT))]
      exact (hf b hb).1
  done := by
    intro X hP hw hK hc i pins s σ H E I hf st hg
    obtain ⟨⟨old, he⟩, hit, hne⟩ := st
    obtain ⟨hG, hi⟩ := hg
    obtain ⟨oi, hoi, _⟩ := dw.live i _ hit
    have hil : it < s.heap.objs.size := Heap.lt_size hoi
    obtain ⟨fp, S, Pd, dr, m1, hS, m2, hP2⟩ := dw.src X pins σ H s hP hw hK I hG (hf it (by simp)).1 hil
    have hef : e ∉ fp := fun hm => by
      obtain ⟨_, q⟩ := m2 e hm hne
      exact fp_apart I q (hf e (by simp)) ((hf e (by simp)).2.2.2.1.elim .inr .inl)
    subst hP hw hK hi
    obtain ⟨f0, f1, f2, f3, f4, f5⟩ := hf it (by simp)
    exact wpAny_pyNext_enum_endD (dr X.A.in1 (I.ok.hd hc)) he ⟨hit, hS⟩ fun h' eb => ⟨rfl, I.turned (t' := s.toks) (fun b o hb q => eb b o hb q) f0 f1 f3 f4 f5⟩
  self := fun A i s Q E st h => let ⟨⟨_, he⟩, _⟩ := st; wpAny_pyIter_enum he h
/-! zip of two of them -/
def ItZ (G1 G2 : Hp → Prop) (xs ys : List V) : It :=
  ⟨fun i H => G1 H ∧ G2 H ∧ i < xs.length ∧ i < ys.length, fun i H v H' => ∃ T x y, v = .ref T ∧ H T = none ∧ H' = upd H T (.tup [x, y]) ∧ xs[i]? = some x ∧ ys[i]? = some y, fun i H => G1 H ∧ G2 H ∧ i = min xs.length ys.length⟩
theorem turn_zp {elts : List Expr} {kk : Nat} {tpos : Pos} {z TI TO i1 i2 : Addr} {xs ys : List V} {G1 G2 : Hp → Prop} {tn1 tn2 : Nat → Heap → Prop} (d1 : Dw P w K i1 xs G1 tn1) (d2 : Dw P w K i2 ys G2 tn2)
    (ap : [z, TI, TO, i1, i2].Nodup) :
    Turn P w K (.Tuple elts kk tpos) (ItZ G1 G2 xs ys) [z, TI, TO, i1, i2] z (fun i h => IsZip h z TI TO .none ∧ IsTupOf2 h TI (.ref i1) (.ref i2) ∧ (∃ a1 a2, IsTupOf2 h TO a1 a2) ∧ tn1 i h ∧ tn2 i h) where
  mem := by simp
  obj := fun i h st b hb => by
    obtain ⟨h1, h2, ⟨a1, a2, h3⟩, h4, h5⟩ := st
    have e' : b = z ∨ b = TI ∨ b = TO ∨ b = i1 ∨ b = i2 := by simpa using hb
    rcases e' with q | q | q | q | q
    · rw [q]; exact ⟨_, h1, fun v q => nomatch q⟩
    · rw [q]; exact ⟨_, h2, fun v q => nomatch q⟩
    · rw [q]; exact ⟨_, h3, fun v q => nomatch q⟩
    · rw [q]; exact d1.live i h h4
    · rw [q]; exact d2.live i h h5
  keep := fun i h h' st k => by
    obtain ⟨h1, h2, ⟨a1, a2, h3⟩, h4, h5⟩ := st
    exact ⟨k z (by simp) _ h1, k TI (by simp) _ h2, ⟨a1, a2, k TO (by simp) _ h3⟩, d1.keep i h h' h4 fun o q => k i1 (by simp) o q, d2.keep i h h' h5 fun o q => k i2 (by simp) o q⟩
  item := by
    intro X hP hw hK hc i pins s σ H E I hf st hg
    have st' := st
    obtain ⟨h1, h2, ⟨a1, a2, h3⟩, h4, h5⟩ := st
    obtain ⟨g1, g2, l1, l2⟩ := hg
    have lt : ∀ b ∈ [z, TI, TO, i1, i2], b < s.heap.objs.size := fun b hb => by
      have e' : b = z ∨ b = TI ∨ b = TO ∨ b = i1 ∨ b = i2 := by simpa using hb
      rcases e' with q | q | q | q | q
      · rw [q]; exact Heap.lt_size h1
      · rw [q]; exact Heap.lt_size h2
      · rw [q]; exact Heap.lt_size h3
      · rw [q]; obtain ⟨o, ho, _⟩ := d1.live i _ h4; exact Heap.lt_size ho
      · rw [q]; obtain ⟨o, ho, _⟩ := d2.live i _ h5; exact Heap.lt_size ho
    obtain ⟨fp1, S1, P1, dr1, m1, hS1, n1, q1⟩ := d1.src X pins σ H s hP hw hK I g1 (hf i1 (by simp)).1 (lt i1 (by simp))
    obtain ⟨fp2, S2, P2, dr2, m2, hS2, n2, q2⟩ := d2.src X pins σ H s hP hw hK I g2 (hf i2 (by simp)).1 (lt i2 (by simp))
    have out1 : ∀ b ∈ [z, TI, TO, i1, i2], b ≠ i1 → b ∉ fp1 := fun b hb hn hm => fp_apart I (n1 b hm hn).2 (hf b hb) ((hf b hb).2.2.2.1.elim .inr .inl)
    have out2 : ∀ b ∈ [z, TI, TO, i1, i2], b ≠ i2 → b ∉ fp2 := fun b hb hn hm => fp_apart I (n2 b hm hn).2 (hf b hb) ((hf b hb).2.2.2.1.elim .inr .inl)
    simp only [List.nodup_cons, List.mem_cons, List.not_mem_nil, or_false, not_or, not_false_eq_true, List.nodup_nil, and_true] at ap
    obtain ⟨⟨p1, p2, p3, p4⟩, ⟨p5, p6, p7⟩, ⟨p8, p9⟩, p10⟩ := ap
    have S : ZipSep2 z TI TO i1 i2 fp1 fp2 := ⟨fun q => p1 q.symm, fun q => p2 q.symm, p5, p6, m1, out1 z (by simp) p3, out1 TO (by simp) p8, p7, m2, out2 z (by simp) p4, out2 TO (by simp) p9, out2 i1 (by simp) p10, out1 i2 (by simp) fun q => p10 q.symm⟩
    subst hP hw hK
    have st0 : IsZip s.heap z TI TO .none ∧ IsTupOf2 s.heap TI (.ref i1) (.ref i2) ∧ (∃ a1 a2, IsTupOf2 s.heap TO a1 a2) ∧ (tn1 i s.heap ∧ S1 s.heap) ∧ tn2 i s.heap ∧ S2 s.heap := ⟨h1, h2, ⟨a1, a2, h3⟩, ⟨h4, hS1⟩, h5, hS2⟩
    refine (GoesN.zip2 S (dr1 X.A.in1 (I.ok.hd hc)) (dr2 X.A.in1 (I.ok.hd hc))).goes i s (fun u s2 => ∃ x H', Inv X pins σ H' s2 ∧ RelV x u ∧ (ItZ G1 G2 xs ys).yld i H x H' ∧
      (IsZip s2.heap z TI TO .none ∧ IsTupOf2 s2.heap TI (.ref i1) (.ref i2) ∧ (∃ a1 a2, IsTupOf2 s2.heap TO a1 a2) ∧ tn1 (i + 1) s2.heap ∧ tn2 (i + 1) s2.heap) ∧ ∀ b ∈ [z, TI, TO, i1, i2], H' b = none) E (by omega) st0 fun v h' tk hY hst hk htk => ?_
    obtain ⟨T, u1, u2, ev, hT, hu1, hu2, hTup⟩ := hY
    obtain ⟨x, hx, rx⟩ := q1 i u1 hu1
    obtain ⟨y, hy, ry⟩ := q2 i u2 hu2
    subst ev
    have new : ObjOk X.prog X.w (upd H T (.tup [x, y])) h' T (.tup [x, y]) := by
      obtain ⟨o, c1, c2, n, c3⟩ := hTup
      exact ⟨by show 2 ≤ sizeLine; decide, [u1, u2], .cons rx (.cons ry .nil), o, c1, c2, n, c3⟩
    have I1 : Inv X pins σ (upd H T (.tup [x, y])) { s with heap := h', toks := tk } := I.turnedNew (ch := [z, TO, i1, i2]) hk (fun b hb => hf b (by
      simp only [List.mem_cons, List.not_mem_nil, or_false] at hb ⊢
      rcases hb with q | q | q | q
      · exact .inl q
      · exact .inr (.inr (.inl q))
      · exact .inr (.inr (.inr (.inl q)))
      · exact .inr (.inr (.inr (.inr q))))) hT new
    exact ⟨.ref T, _, I1, rfl, ⟨T, x, y, rfl, I.hok.fresh hT, rfl, hx, hy⟩, ⟨hst.1, hst.2.1, hst.2.2.1, hst.2.2.2.1.1, hst.2.2.2.2.1⟩, fun b hb => by
      rw [upd_ne (Nat.ne_of_lt (Nat.lt_of_lt_of_le (lt b hb) hT))]
      exact (hf b hb).1⟩
  done := by
    intro X hP hw hK hc i pins s σ H E I hf st hg
    obtain ⟨h1, h2, ⟨a1, a2, h3⟩, h4, h5⟩ := st
    obtain ⟨g1, g2, hi⟩ := hg
    have lt : ∀ b ∈ [z, TI, TO, i1, i2], b < s.heap.objs.size := fun b hb => by
      have e' : b = z ∨ b = TI ∨ b = TO ∨ b = i1 ∨ b = i2 := by simpa using hb
      rcases e' with q | q | q | q | q
      · rw [q]; exact Heap.lt_size h1
      · rw [q]; exact Heap.lt_size h2
      · rw [q]; exact Heap.lt_size h3
      · rw [q]; obtain ⟨o, ho, _⟩ := d1.live i _ h4; exact Heap.lt_size ho
      · rw [q]; obtain ⟨o, ho, _⟩ := d2.live i _ h5; exact Heap.lt_size ho
    obtain ⟨fp1, S1, P1, dr1, m1, hS1, n1, q1⟩ := d1.src X pins σ H s hP hw hK I g1 (hf i1 (by simp)).1 (lt i1 (by simp))
    obtain ⟨fp2, S2, P2, dr2, m2, hS2, n2, q2⟩ := d2.src X pins σ H s hP hw hK I g2 (hf i2 (by simp)).1 (lt i2 (by simp))
    have out1 : ∀ b ∈ [z, TI, TO, i1, i2], b ≠ i1 → b ∉ fp1 := fun b hb hn hm => fp_apart I (n1 b hm hn).2 (hf b hb) ((hf b hb).2.2.2.1.elim .inr .inl)
    have out2 : ∀ b ∈ [z, TI, TO, i1, i2], b ≠ i2 → b ∉ fp2 := fun b hb hn hm => fp_apart I (n2 b hm hn).2 (hf b hb) ((hf b hb).2.2.2.1.elim .inr .inl)
    simp only [List.nodup_cons, List.mem_cons, List.not_mem_nil, or_false, not_or, not_false_eq_true, List.nodup_nil, and_true] at ap
    obtain ⟨⟨p1, p2, p3, p4⟩, ⟨p5, p6, p7⟩, ⟨p8, p9⟩, p10⟩ := ap
    have S : ZipSep2 z TI TO i1 i2 fp1 fp2 := ⟨fun q => p1 q.symm, fun q => p2 q.symm, p5, p6, m1, out1 z (by simp) p3, out1 TO (by simp) p8, p7, m2, out2 z (by simp) p4, out2 TO (by simp) p9, out2 i1 (by simp) p10, out1 i2 (by simp) fun q => p10 q.symm⟩
    subst hP hw hK hi
    have st0 : IsZip s.heap z TI TO .none ∧ IsTupOf2 s.heap TI (.ref i1) (.ref i2) ∧ (∃ a1 a2, IsTupOf2 s.heap TO a1 a2) ∧ (tn1 (min xs.length ys.length) s.heap ∧ S1 s.heap) ∧ tn2 (min xs.length ys.length) s.heap ∧ S2 s.heap := ⟨h1, h2, ⟨a1, a2, h3⟩, ⟨h4, hS1⟩, h5, hS2⟩
    exact (GoesN.zip2 (elts := elts) (x1 := kk) (pos := tpos) S (dr1 X.A.in1 (I.ok.hd hc)) (dr2 X.A.in1 (I.ok.hd hc))).stops s (fun s1 => Inv X pins σ H s1) E st0 fun h' tk hk htk => I.turnedL (ch := [z, TO, i1, i2]) hk fun b hb => hf b (by
      simp only [List.mem_cons, List.not_mem_nil, or_false] at hb ⊢
      rcases hb with q | q | q | q
      · exact .inl q
      · exact .inr (.inr (.inl q))
      · exact .inr (.inr (.inr (.inl q)))
      · exact .inr (.inr (.inr (.inr q))))
  self := fun A i s Q E st h => wpAny_pyIter_zip st.1 h
end
end Mi

/-! Mi8: iterables: sequences of any kind, enumerate, zip, range. -/
namespace Mi
open PySem PySem.Spec PyProof.Rows L2

/-- enumerate(v), v anything that begins an iterator: its two new cells -/
theorem meets_en1 {v : Value} {o : Obj} {G : Heap → Prop} (B : Begins v o G) :
    Meets (Builtin.«enumerate.__new__» ⟨[.type "enumerate", v], []⟩) (fun _ R s => G s.heap ∧
      R (.ok (.ret (.ref (s.heap.push o).objs.size))) { s with heap := (s.heap.push o).push { cls := .type "enumerate", data := .fields #[.none, .bool false, .ref s.heap.objs.size, rawInt 0, .none, .none] } }) := by
  refine .of_wp fun prog w A R s hg => ?_
  obtain ⟨hp, gn, dr, tk, os⟩ := s
  obtain ⟨g, fin⟩ := hg
  have hsub := sub_enumerate
  have go : ∀ {A' : Around} {E : Value → Shared → Prop} {Q : Value → Shared → Prop}, Q (.ref hp.objs.size) ⟨hp.push o, gn, dr, tk, os⟩ → wpAny (model prog w) A' (pyIter v) Q E ⟨hp, gn, dr, tk, os⟩ :=
    fun q => B.iter prog w _ _ ⟨hp, gn, dr, tk, os⟩ _ g q
  wp_walk using go
  refine wpAny_stack_any fun st => wpAny_pure ?_
  split
  · rename_i c _ _ _ _ _
    cases (c == Value.type "enumerate") <;> (wp_walk using go; exact ⟨_, rfl, fin⟩)
  · wp_walk using go
    exact ⟨_, rfl, fin⟩
section
variable {prog : Program} {w : World} {A : Around} {E : Value → Shared → Prop} {s : Shared}
theorem call_en1 {v : Value} {o : Obj} {G : Heap → Prop} {Q : Value → Shared → Prop} (B : Begins v o G) (g : G s.heap)
    (h : ∀ h', IsEnum h' (s.heap.objs.size + 1) s.heap.objs.size 0 .none → h'.get? s.heap.objs.size = some o → (∀ b ob, s.heap.get? b = some ob → h'.get? b = some ob) → Q (.ref (s.heap.objs.size + 1)) { s with heap := h' }) :
    wpAny (model prog w) A (call (.type "enumerate") [v]) Q E s := by
  refine callType_new F.called_enumerate (by decide) (F.typeCall_enumerate_1 _) (F.newCall_enumerate_1 _) (fun obj => F.args_object_init_2 obj _) F.entry_enumerate_new (meets_en1 B) ⟨g, ?_⟩
  have z1 : (s.heap.push o).objs.size = s.heap.objs.size + 1 := Heap.size_push ..
  have he := Heap.get?_push_size (s.heap.push o) (o := { cls := .type "enumerate", data := .fields #[.none, .bool false, .ref s.heap.objs.size, rawInt 0, .none, .none] }) rfl
  rw [z1] at he
  show _ ∧ _
  rw [z1]
  exact ⟨⟨_, he, rfl⟩, h _ he (Heap.get?_push_of_some _ (Heap.get?_push_size _ B.free)) fun b ob q => Heap.get?_push_of_some _ (Heap.get?_push_of_some _ q)⟩
end

/-- how a value is told as a source: what it begins, its draws -/
structure SrcOk (X : Cx) (x : V) (v : Value) (H : Hp) (xs : List V) (G : Hp → Prop) (s : Shared) : Prop where
  ex : ∃ (o : Obj) (B : Heap → Prop) (tn : Nat → Heap → Prop), Begins v o B ∧ B s.heap ∧ (∀ it h, h.get? it = some o → ∃ tn : Nat → Heap → Prop, Dw X.prog X.w X.K it xs G tn ∧ tn 0 h)
inductive Src (H : Hp) : V → List V → (Hp → Prop) → Prop where
  | lst {a : Addr} {xs : List V} (h : H a = some (.lst xs)) : Src H (.ref a) xs (fun H => H a = some (.lst xs))
  | tup {a : Addr} {xs : List V} (h : H a = some (.tup xs)) : Src H (.ref a) xs (fun H => H a = some (.tup xs))
  | str (z : Str) : Src H (.str z) (strV z) (fun _ => True)
theorem src_ok {X : Cx} {pins : List (Addr × Obj)} {σ : L2.St} {H : Hp} {s : Shared} {x : V} {v : Value} {xs : List V} {G : Hp → Prop} (I : Inv X pins σ H s) (r : RelV x v) (c : Src H x xs G) :
    ∃ (o : Obj) (B : Heap → Prop), Begins v o B ∧ B s.heap ∧ ∀ it h, h.get? it = some o → ∃ tn : Nat → Heap → Prop, Dw X.prog X.w X.K it xs G tn ∧ tn 0 h := by
  cases c with
  | lst hH =>
    cases r
    obtain ⟨its, _, p, _⟩ := I.list (SqL.of hH)
    exact ⟨_, _, begins_list _ its.toArray, p.isList, fun it h e => ⟨_, dw_lst it _ xs, _, e, rfl, rfl⟩⟩
  | tup hH =>
    cases r
    obtain ⟨its, _, p, _⟩ := I.tuple (SqT.of hH)
    exact ⟨_, _, begins_tuple _ its.toArray, p, fun it h e => ⟨_, dw_tup it _ xs, _, e, rfl, rfl⟩⟩
  | str z =>
    obtain ⟨t, rfl⟩ := r
    exact ⟨_, _, begins_text z t, trivial, fun it h e => ⟨_, dw_str it z t, _, e, rfl, rfl⟩⟩
def iEn (ta : TA) : TI := fun σ H R => ta σ H fun vs H1 => ∃ x xs G, vs = [x] ∧ Src H1 x xs G ∧ R (ItE G xs) H1
def iZp (ta : TA) : TI := fun σ H R => ta σ H fun vs H1 => ∃ x y xs ys G1 G2, vs = [x, y] ∧ Src H1 x xs G1 ∧ Src H1 y ys G2 ∧ R (ItZ G1 G2 xs ys) H1
theorem pi_en {X : Cx} {e : Expr} {ta : TA} {p pos tpos : Pos} {elts : List Expr} {kk : Nat} (hg : Gl X "enumerate") (hm : X.mg "enumerate" = none) (ha : PA X [e] ta) (hs : starEach [e] X.env = [(false, eval e X.env)]) :
    PI X (.Tuple elts kk tpos) (.Call (.Name "enumerate" p) [e] [] pos) (iEn ta) := by
  refine ⟨fun pins s σ H R I h => Call_ (ld_blt I hg hm boot_enumerate (PyProof.Rows.callWith_type1 (thn (ha.run pos pins s σ H _ I h) fun us s1 q1 => ?_) hs rfl))⟩
  obtain ⟨vs, H1, I1, r1, x, xs, G, rfl, c, q⟩ := q1
  obtain ⟨u, rfl, ru⟩ := vals1 r1
  obtain ⟨o, B, b, hb, dw⟩ := src_ok I1 ru c
  refine call_en1 b hb fun h' he ho hk => wpAny_pyIter_enum he ?_
  have I2 : Inv X pins σ H1 { s1 with heap := h' } := I1.kept (t' := s1.toks) hk
  obtain ⟨tn, d, t0⟩ := dw s1.heap.objs.size h' ho
  refine ⟨s1.heap.objs.size + 1, [s1.heap.objs.size + 1, s1.heap.objs.size], _, _, H1, rfl, I2, turn_en d, ⟨⟨.none, he⟩, t0, Nat.succ_ne_self _⟩, fun c hc => ?_, q⟩
  have hle : s1.heap.objs.size ≤ c := by
    simp only [List.mem_cons, List.not_mem_nil, or_false] at hc
    rcases hc with z | z <;> rw [z]
    · exact Nat.le_add_right _ _
    · exact Nat.le_refl _
  exact I1.fpOk hle (I1.hok.fresh hle)
theorem pi_zp {X : Cx} {e e2 : Expr} {ta : TA} {p pos tpos : Pos} {elts : List Expr} {kk : Nat} (hg : Gl X "zip") (hm : X.mg "zip" = none) (ha : PA X [e, e2] ta) (hs : starEach [e, e2] X.env = (false, eval e X.env) :: starEach [e2] X.env) (hpl : (backTo pos (starEach [e2] X.env)).any (·.1) = false) :
    PI X (.Tuple elts kk tpos) (.Call (.Name "zip" p) [e, e2] [] pos) (iZp ta) := by
  refine ⟨fun pins s σ H R I h => Call_ (ld_blt I hg hm PyProof.Rows.boot_zip (PyProof.Rows.callWith_type1 (thn (ha.run pos pins s σ H _ I h) fun us s1 q1 => ?_) hs hpl))⟩
  obtain ⟨vs, H1, I1, r1, x, y, xs, ys, G1, G2, rfl, c1, c2, q⟩ := q1
  obtain ⟨u1, u2, rfl, r1, r2⟩ := vals2 r1
  obtain ⟨o1, B1, b1, hb1, dw1⟩ := src_ok I1 r1 c1
  obtain ⟨o2, B2, b2, hb2, dw2⟩ := src_ok I1 r2 c2
  refine zip_begins2 b1 b2 hb1 hb2 fun h' hz hTI hTO h1 h2 hsz hk => wpAny_pyIter_zip hz ?_
  have I2 : Inv X pins σ H1 { s1 with heap := h' } := I1.kept (t' := s1.toks) hk
  obtain ⟨tn1, d1, t1⟩ := dw1 _ h' h1
  obtain ⟨tn2, d2, t2⟩ := dw2 _ h' h2
  refine ⟨s1.heap.objs.size + 4, [s1.heap.objs.size + 4, s1.heap.objs.size + 2, s1.heap.objs.size + 3, s1.heap.objs.size, s1.heap.objs.size + 1], _, _, H1, rfl, I2, turn_zp d1 d2 ?_, ⟨hz, hTI, ⟨_, _, hTO⟩, t1, t2⟩, fun c hc => ?_, q⟩
  · generalize s1.heap.objs.size = n
    simp only [List.nodup_cons, List.mem_cons, List.not_mem_nil, or_false, not_or, not_false_eq_true, List.nodup_nil, and_true]
    have f : ∀ i j : Nat, i ≠ j → n + i ≠ n + j := fun i j h e => h (Nat.add_left_cancel e)
    exact ⟨⟨f 4 2 (by decide), f 4 3 (by decide), f 4 0 (by decide), f 4 1 (by decide)⟩, ⟨f 2 3 (by decide), f 2 0 (by decide), f 2 1 (by decide)⟩, ⟨f 3 0 (by decide), f 3 1 (by decide)⟩, f 0 1 (by decide)⟩
  · have hle : s1.heap.objs.size ≤ c := by
      simp only [List.mem_cons, List.not_mem_nil, or_false] at hc
      rcases hc with z | z | z | z | z <;> rw [z]
      · exact Nat.le_add_right _ _
      · exact Nat.le_add_right _ _
      · exact Nat.le_add_right _ _
      · exact Nat.le_refl _
      · exact Nat.le_add_right _ _
    exact I1.fpOk hle (I1.hok.fresh hle)
/-- a list, a tuple, a text, whichever it is -/
def iSq (K : PySem.W.Frag) (te : TE) : TI := fun σ H R => te σ H fun x H1 => (∃ a xs, x = .ref a ∧ H1 a = some (.lst xs) ∧ R (Itl K a) H1) ∨ (∃ a xs, x = .ref a ∧ H1 a = some (.tup xs) ∧ R (Itt K a) H1) ∨ ∃ z, x = .str z ∧ R (Its z) H1
theorem pi_sq {X : Cx} {tg l : Expr} {tl : TE} (hl : PE X l tl) : PI X tg l (iSq X.K tl) := by
  refine ⟨fun pins s σ H R I h => thn (hl.run pins s σ H _ I h) fun v s1 q1 => ?_⟩
  obtain ⟨x, H1, I1, r1, q⟩ := q1
  have fp : ∀ b ∈ [s1.heap.objs.size], FpOk X pins H1 b := fun b hb => by
    have e : b = s1.heap.objs.size := by simpa using hb
    rw [e]
    exact I1.fpOk (Nat.le_refl _) (I1.hok.fresh (Nat.le_refl _))
  rcases q with ⟨a, xs, rfl, hH, q⟩ | ⟨a, xs, rfl, hH, q⟩ | ⟨z, rfl, q⟩
  · cases r1
    obtain ⟨its, rv, p, _⟩ := I1.list (SqL.of hH)
    exact wpAny_pyIter_list p.isList ⟨_, [_], _, _, H1, rfl, I1.kept (t' := s1.toks) fun b o e => Heap.get?_push_of_some _ e, turn_list a _, ⟨_, Heap.get?_push_size _ rfl, rfl, rfl⟩, fp, q⟩
  · cases r1
    obtain ⟨its, rv, p, _⟩ := I1.tuple (SqT.of hH)
    exact wpAny_pyIter_tuple (show s1.heap.IsTuple a its.toArray from p) ⟨_, [_], _, _, H1, rfl, I1.kept (t' := s1.toks) fun b o e => Heap.get?_push_of_some _ e, turn_tuple a _, ⟨_, Heap.get?_push_size _ rfl, rfl, rfl⟩, fp, q⟩
  · obtain ⟨t, rfl⟩ := r1
    refine wpAny_pyIter_strU ⟨_, [_], _, _, H1, rfl, I1.kept (t' := s1.toks) fun b o e => Heap.get?_push_of_some _ e, turn_str _ z t (strIterType z) ?_, ⟨_, Heap.get?_push_size _ rfl, rfl, rfl⟩, fp, q⟩
    unfold strIterType
    split
    · exact .inl rfl
    · exact .inr rfl

/-! ### mirrors -/
def seqOf : D → Option (List D)
  | .list ds => some ds
  | .tuple ds => some ds
  | .str z => if z.length ≤ LIM then some (strL z) else none
  | _ => none
def iSeqM (m : M) : MI := fun cs => match m cs with
  | some (.fz d, cs1) => match seqOf d with
    | some ds => some (ds, cs1)
    | none => none
  | _ => none
def enumFrom : Nat → List D → List D
  | _, [] => []
  | i, d :: ds => .tuple [.int (i : Int), d] :: enumFrom (i + 1) ds
def iEnM (m : MA) : MI := fun cs => match m cs with
  | some ([d], cs1) => match seqOf d with
    | some ds => some (enumFrom 0 ds, cs1)
    | none => none
  | _ => none
def zipT : List D → List D → List D
  | x :: xs, y :: ys => .tuple [x, y] :: zipT xs ys
  | _, _ => []
def iZpM (m : MA) : MI := fun cs => match m cs with
  | some ([d, e], cs1) => match seqOf d, seqOf e with
    | some ds, some es => some (zipT ds es, cs1)
    | _, _ => none
  | _ => none
def rangeL (lo : Int) (n : Nat) : List D := (List.range n).map fun i => .int (lo + (i : Nat))
def iRg1M (m : MA) : MI := fun cs => match m cs with
  | some ([.int j], cs1) => if -(2 ^ 62) ≤ j ∧ j < 2 ^ 62 then some (rangeL 0 j.toNat, cs1) else none
  | _ => none
def iRg2M (m : MA) : MI := fun cs => match m cs with
  | some ([.int i, .int j], cs1) => if -(2 ^ 62) ≤ i ∧ i < 2 ^ 62 ∧ -(2 ^ 62) ≤ j ∧ j < 2 ^ 62 then some (rangeL i (j - i).toNat, cs1) else none
  | _ => none
section
variable {K : PySem.W.Frag} {J H : Hp}
theorem rp_strL (z : Str) : RpAll K J (strV z) (strL z) := by
  unfold strV strL
  induction z.cps.toList with
  | nil => exact .nil
  | cons c l ih => exact .cons (.str _) ih
theorem enumFrom_get : ∀ (ds : List D) (k i : Nat) (d : D), (enumFrom k ds)[i]? = some d → ∃ x, ds[i]? = some x ∧ d = .tuple [.int ((k + i : Nat) : Int), x]
  | [], _, _, _, h => by simp [enumFrom] at h
  | x :: ds, k, 0, d, h => by simp [enumFrom] at h; exact ⟨x, rfl, h.symm⟩
  | x :: ds, k, i + 1, d, h => by
    obtain ⟨y, h1, h2⟩ := enumFrom_get ds (k + 1) i d (by simpa [enumFrom] using h)
    refine ⟨y, by simpa using h1, ?_⟩
    rw [h2]
    have : k + 1 + i = k + (i + 1) := by omega
    rw [this]
theorem enumFrom_length : ∀ (ds : List D) (k : Nat), (enumFrom k ds).length = ds.length
  | [], _ => rfl
  | _ :: ds, k => by simp [enumFrom, enumFrom_length ds (k + 1)]
theorem zipT_get : ∀ (ds es : List D) (i : Nat) (d : D), (zipT ds es)[i]? = some d → ∃ x y, ds[i]? = some x ∧ es[i]? = some y ∧ d = .tuple [x, y]
  | [], _, _, _, h => by simp [zipT] at h
  | _ :: _, [], _, _, h => by simp [zipT] at h
  | x :: ds, y :: es, 0, d, h => by simp [zipT] at h; exact ⟨x, y, rfl, rfl, h.symm⟩
  | x :: ds, y :: es, i + 1, d, h => by
    obtain ⟨a, b, h1, h2, h3⟩ := zipT_get ds es i d (by simpa [zipT] using h)
    exact ⟨a, b, by simpa using h1, by simpa using h2, h3⟩
theorem zipT_length : ∀ (ds es : List D), (zipT ds es).length = min ds.length es.length
  | [], _ => by simp [zipT]
  | _ :: _, [] => by simp [zipT]
  | _ :: ds, _ :: es => by simp only [zipT, List.length_cons, zipT_length ds es]; omega
/-- frozen data as a source -/
theorem src_of {v : V} {d : D} {ds : List D} (w : Wf J H) (r : Rp K J v d) (h : seqOf d = some ds) : ∃ xs G, Src H v xs G ∧ RpAll K J xs ds ∧ ∀ J2 H2, Wf J2 H2 → Ex J J2 → G H2 := by
  unfold seqOf at h
  split at h
  · cases h
    cases r with
    | lst h1 a1 => exact ⟨_, _, .lst (w.sub.ls _ _ h1), a1, fun J2 H2 w2 x => w2.sub.ls _ _ (x _ _ h1)⟩
  · cases h
    cases r with
    | tup h1 a1 => exact ⟨_, _, .tup (w.sub.ts _ _ h1), a1, fun J2 H2 w2 x => w2.sub.ts _ _ (x _ _ h1)⟩
  · split at h
    · cases h
      cases r
      exact ⟨_, _, .str _, rp_strL _, fun _ _ _ _ => trivial⟩
    · cases h
  · cases h
theorem iter_seq {v : V} {d : D} {ds : List D} (w : Wf J H) (r : Rp K J v d) (h : seqOf d = some ds) :
    (∃ a xs, v = .ref a ∧ H a = some (.lst xs) ∧ Iter K (Itl K a) ds J) ∨ (∃ a xs, v = .ref a ∧ H a = some (.tup xs) ∧ Iter K (Itt K a) ds J) ∨ ∃ z, v = .str z ∧ Iter K (Its z) ds J := by
  unfold seqOf at h
  split at h
  · cases h
    cases r with
    | @lst a xs _ h1 a1 =>
      refine .inl ⟨_, _, rfl, w.sub.ls _ _ h1, fun J2 H2 w2 x => ?_⟩
      have hq : H2 a = some (.lst xs) := w2.sub.ls _ _ (x _ _ h1)
      refine ⟨fun i d hd => ?_, xs, SqL.of hq, by rw [a1.length]; exact Nat.le_refl _⟩
      obtain ⟨y, hy, ry⟩ := a1.get hd
      refine ⟨⟨xs, y, SqL.of hq, hy⟩, fun z H3 hz => ?_⟩
      obtain ⟨e, f⟩ := hz
      subst e
      have e2 := (f xs (SqL.of hq)).symm.trans hy
      cases e2
      exact ⟨J2, .refl w2, ry.ex x⟩
  · cases h
    cases r with
    | @tup a xs _ h1 a1 =>
      refine .inr (.inl ⟨_, _, rfl, w.sub.ts _ _ h1, fun J2 H2 w2 x => ?_⟩)
      have hq : H2 a = some (.tup xs) := w2.sub.ts _ _ (x _ _ h1)
      refine ⟨fun i d hd => ?_, xs, SqT.of hq, by rw [a1.length]; exact Nat.le_refl _⟩
      obtain ⟨y, hy, ry⟩ := a1.get hd
      refine ⟨⟨xs, y, SqT.of hq, hy⟩, fun z H3 hz => ?_⟩
      obtain ⟨e, f⟩ := hz
      subst e
      have e2 := (f xs (SqT.of hq)).symm.trans hy
      cases e2
      exact ⟨J2, .refl w2, ry.ex x⟩
  · rename_i z
    split at h
    · cases h
      cases r with
      | str _ =>
        refine .inr (.inr ⟨z, rfl, fun J2 H2 w2 x => ⟨fun i d hd => ?_, ?_⟩⟩)
        · obtain ⟨y, hy, ry⟩ := (rp_strL (K := K) (J := J2) z).get hd
          have hi : i < z.cps.size := by
            have := (List.getElem?_eq_some_iff.mp hd).1
            simpa [strL] using this
          refine ⟨hi, fun u H3 hz => ?_⟩
          obtain ⟨e, c, hc, ev⟩ := hz
          subst e
          subst ev
          have e2 : (strL z)[i]? = some (.str ⟨#[c]⟩) := by
            unfold strL
            rw [List.getElem?_map]
            have : z.cps.toList[i]? = some c := by simpa using hc
            rw [this]
            rfl
          rw [e2] at hd
          cases hd
          exact ⟨J2, .refl w2, .str _⟩
        · show z.cps.size ≤ _
          simp [strL]
    · cases h
  · cases h
variable {F : Fm} {p : Bool} {tg e e2 : Expr} {m : M} {ma : MA} {pn pos tpos : Pos} {elts : List Expr} {kk : Nat}
theorem ix_seq (h : EX F p e m) : IX F p tg e (iSeqM m) := by
  obtain ⟨te, h1, h2⟩ := h
  refine ⟨iSq F.K te, fun X hX => by rw [← F.hK X hX]; exact pi_sq (h1 X hX), fun cs ds cs' hm en σ J H s R r => ?_⟩
  unfold iSeqM at hm
  split at hm
  · next d cs1 he =>
    split at hm
    · next ds' hs =>
      cases hm
      refine h2 _ _ _ he en σ J H s _ fun v J1 H1 s1 x1 n1 => ?_
      rcases iter_seq s1.wf s1.headFz hs with ⟨a, xs, e1, e2, e3⟩ | ⟨a, xs, e1, e2, e3⟩ | ⟨z, e1, e3⟩
      · exact .inl ⟨a, xs, e1, e2, r _ J1 H1 s1.pop x1 n1 e3⟩
      · exact .inr (.inl ⟨a, xs, e1, e2, r _ J1 H1 s1.pop x1 n1 e3⟩)
      · exact .inr (.inr ⟨z, e1, r _ J1 H1 s1.pop x1 n1 e3⟩)
    · cases hm
  · cases hm
theorem ix_en (h : AX F p [e] ma) (hg : F.sc.names.lookup ("enumerate" : Str) = some .globalImplicit) (hm : F.mg "enumerate" = none) (hs : ∀ env, starEach [e] env = [(false, eval e env)]) : IX F p (.Tuple elts kk tpos) (.Call (.Name "enumerate" pn) [e] [] pos) (iEnM ma) := by
  obtain ⟨te, h1, h2⟩ := h
  refine ⟨iEn te, fun X hX => pi_en (by show X.env.scope.names.lookup _ = _; rw [F.hsc X hX]; exact hg) (by rw [F.hmg X hX]; exact hm) (h1 X hX) (hs _), fun cs ds cs' hm en σ J H s R r => ?_⟩
  unfold iEnM at hm
  split at hm
  · next d cs1 he =>
    split at hm
    · next ds' hsq =>
      cases hm
      refine h2 _ _ _ he en σ J H s _ fun vs J1 H1 s1 r1 x1 n1 => ?_
      cases r1 with
      | @cons v _ _ _ rv rn =>
        cases rn
        obtain ⟨xs, G, sr, ra, hG⟩ := src_of s1.wf rv hsq
        refine ⟨_, xs, G, rfl, sr, r _ J1 H1 s1 x1 n1 fun J2 H2 w2 x => ⟨fun i d hd => ?_, hG J2 H2 w2 x, by rw [enumFrom_length]; exact ra.length.symm⟩⟩
        obtain ⟨y, hy, ed⟩ := enumFrom_get ds' 0 i d hd
        subst ed
        obtain ⟨yv, hyv, ry⟩ := ra.get hy
        refine ⟨⟨hG J2 H2 w2 x, (List.getElem?_eq_some_iff.mp hyv).1⟩, fun u H3 hu => ?_⟩
        obtain ⟨T, x', eu, nT, eH, hx'⟩ := hu
        rw [hyv] at hx'
        cases hx'
        subst eu eH
        have n := Nw.new (o := .tup [.int (i : Nat), yv]) w2 nT
        refine ⟨_, n, .tup upd_same (.cons ?_ (.cons ((ry.ex x).ex n.j) .nil))⟩
        rw [Nat.zero_add]
        exact .int _
    · cases hm
  · cases hm
theorem ix_zp (h : AX F p [e, e2] ma) (hg : F.sc.names.lookup ("zip" : Str) = some .globalImplicit) (hm : F.mg "zip" = none) (hs : ∀ env, starEach [e, e2] env = (false, eval e env) :: starEach [e2] env) (hpl : ∀ env, (backTo pos (starEach [e2] env)).any (·.1) = false) :
    IX F p (.Tuple elts kk tpos) (.Call (.Name "zip" pn) [e, e2] [] pos) (iZpM ma) := by
  obtain ⟨te, h1, h2⟩ := h
  refine ⟨iZp te, fun X hX => pi_zp (by show X.env.scope.names.lookup _ = _; rw [F.hsc X hX]; exact hg) (by rw [F.hmg X hX]; exact hm) (h1 X hX) (hs _) (hpl _), fun cs ds cs' hm en σ J H s R r => ?_⟩
  unfold iZpM at hm
  split at hm
  · next d e' cs1 he =>
    split at hm
    · next ds' es' hsq hsq2 =>
      cases hm
      refine h2 _ _ _ he en σ J H s _ fun vs J1 H1 s1 r1 x1 n1 => ?_
      cases r1 with
      | cons rv rn =>
        cases rn with
        | cons rv2 rn2 =>
          cases rn2
          obtain ⟨xs, G, sr, ra, hG⟩ := src_of s1.wf rv hsq
          obtain ⟨ys, G2, sr2, ra2, hG2⟩ := src_of s1.wf rv2 hsq2
          refine ⟨_, _, xs, ys, G, G2, rfl, sr, sr2, r _ J1 H1 s1 x1 n1 fun J2 H2 w2 x => ⟨fun i d hd => ?_, hG J2 H2 w2 x, hG2 J2 H2 w2 x, by rw [zipT_length, ra.length, ra2.length]⟩⟩
          obtain ⟨y, y2, hy, hy2, ed⟩ := zipT_get ds' es' i d hd
          subst ed
          obtain ⟨yv, hyv, ry⟩ := ra.get hy
          obtain ⟨yv2, hyv2, ry2⟩ := ra2.get hy2
          refine ⟨⟨hG J2 H2 w2 x, hG2 J2 H2 w2 x, (List.getElem?_eq_some_iff.mp hyv).1, (List.getElem?_eq_some_iff.mp hyv2).1⟩, fun u H3 hu => ?_⟩
          obtain ⟨T, x', x2', eu, nT, eH, hx', hx2'⟩ := hu
          rw [hyv] at hx'
          rw [hyv2] at hx2'
          cases hx'
          cases hx2'
          subst eu eH
          have n := Nw.new (o := .tup [yv, yv2]) w2 nT
          exact ⟨_, n, .tup upd_same (.cons ((ry.ex x).ex n.j) (.cons ((ry2.ex x).ex n.j) .nil))⟩
    · cases hm
  · cases hm
theorem rangeL_get {lo : Int} {n i : Nat} {d : D} (h : (rangeL lo n)[i]? = some d) : i < n ∧ d = .int (lo + (i : Nat)) := by
  unfold rangeL at h
  rw [List.getElem?_map] at h
  obtain ⟨j, h1, h2⟩ := Option.map_eq_some_iff.mp h
  obtain ⟨h3, h4⟩ := List.getElem?_eq_some_iff.mp h1
  rw [List.length_range] at h3
  simp at h4
  subst h4
  exact ⟨h3, h2.symm⟩
theorem iter_range (lo : Int) (n : Nat) : Iter K (Itr lo n) (rangeL lo n) J := fun J2 H2 w2 x => ⟨fun i d hd => by
  obtain ⟨h1, h2⟩ := rangeL_get hd
  refine ⟨h1, fun u H3 hu => ?_⟩
  obtain ⟨e1, e2⟩ := hu
  subst e1 e2 h2
  exact ⟨J2, .refl w2, .int _⟩, by show n ≤ _; simp [rangeL]⟩
theorem ix_rg1 (h : AX F p [e] ma) (hg : F.sc.names.lookup ("range" : Str) = some .globalImplicit) (hm : F.mg "range" = none) (hs : ∀ env, starEach [e] env = [(false, eval e env)]) : IX F p tg (.Call (.Name "range" pn) [e] [] pos) (iRg1M ma) := by
  obtain ⟨te, h1, h2⟩ := h
  refine ⟨iRng1 te, fun X hX => pi_range1 (by show X.env.scope.names.lookup _ = _; rw [F.hsc X hX]; exact hg) (by rw [F.hmg X hX]; exact hm) (h1 X hX) (hs _), fun cs ds cs' hm en σ J H s R r => ?_⟩
  unfold iRg1M at hm
  split at hm
  · next j cs1 he =>
    split at hm
    · next hc =>
      cases hm
      refine h2 _ _ _ he en σ J H s _ fun vs J1 H1 s1 r1 x1 n1 => ?_
      cases r1 with
      | cons rv rn =>
        cases rn; cases rv
        exact ⟨j, rfl, hc.1, hc.2, r _ J1 H1 s1 x1 n1 (iter_range 0 _)⟩
    · cases hm
  · cases hm
theorem ix_rg2 (h : AX F p [e, e2] ma) (hg : F.sc.names.lookup ("range" : Str) = some .globalImplicit) (hm : F.mg "range" = none) (hs : ∀ env, starEach [e, e2] env = [(false, eval e env), (false, eval e2 env)]) (hs2 : ∀ env, starEach [e2] env = [(false, eval e2 env)]) : IX F p tg (.Call (.Name "range" pn) [e, e2] [] pos) (iRg2M ma) := by
  obtain ⟨te, h1, h2⟩ := h
  refine ⟨iRng2 te, fun X hX => pi_range2 (by show X.env.scope.names.lookup _ = _; rw [F.hsc X hX]; exact hg) (by rw [F.hmg X hX]; exact hm) (h1 X hX) (hs _) (hs2 _), fun cs ds cs' hm en σ J H s R r => ?_⟩
  unfold iRg2M at hm
  split at hm
  · next i j cs1 he =>
    split at hm
    · next hc =>
      cases hm
      refine h2 _ _ _ he en σ J H s _ fun vs J1 H1 s1 r1 x1 n1 => ?_
      cases r1 with
      | cons rv rn =>
        cases rv
        cases rn with
        | cons rv2 rn2 =>
          cases rn2; cases rv2
          exact ⟨i, j, rfl, hc, r _ J1 H1 s1 x1 n1 (iter_range i _)⟩
    · cases hm
  · cases hm
end
end Mi

/-! Mi9: the frame rule; targets; comprehensions. -/
namespace Mi
open PySem PySem.Spec PyProof.Rows L2

section
variable {K : PySem.W.Frag} {J J' H H' : Hp} {en : Ent} {cs cs' : List Cell} {σ : L2.St} {c : Cell} {o : Option V} {v : V} {d : D}
/-- THE FRAME RULE: what runs on the slots below leaves the cell on top as it is -/
theorem Sta.under (s : Sta K en (c :: cs) (o :: σ) J H) : ∃ en', Sta K en' cs σ J H ∧ ∀ cs' σ' J' H', Sta K en' cs' σ' J' H' → Ex J J' → Sta K en (c :: cs') (o :: σ') J' H' := by
  have go : ∀ (G F : List Addr), St K J H cs σ G → G.Nodup → F.Nodup → (∀ a ∈ F, ∀ b ∈ G, a ≠ b) → (∀ a ∈ F, J a = none ∧ ∃ o, H a = some o ∧ Own1 o) → (∀ a ∈ G, a ∈ en.F ∨ en.H a = none) → (∀ a ∈ F, a ∈ en.F ∨ en.H a = none) →
      (∀ cs' σ' J' H' G', St K J' H' cs' σ' G' → Ex J J' → (∀ a ∈ F, H' a = H a) → (∀ a ∈ F, J' a = none) → St K J' H' (c :: cs') (o :: σ') (F ++ G')) →
      ∃ en', Sta K en' cs σ J H ∧ ∀ cs' σ' J' H', Sta K en' cs' σ' J' H' → Ex J J' → Sta K en (c :: cs') (o :: σ') J' H' := fun G F h nG nF dj at' eG eF build => by
    refine ⟨⟨J, H, G⟩, ⟨s.wf, fun a u e _ => e, fun a e => e, fun a _ _ e => e, G, h, nG, fun a ha => .inl ha⟩, fun cs' σ' J' H' s' x => ?_⟩
    obtain ⟨w, f, th, vw, G', h1, h2, h3⟩ := s'
    have f : ∀ a u, H a = some u → a ∉ G → H' a = some u := f
    have th : ∀ a, H' a = none → H a = none := th
    have vw : ∀ a, H a ≠ none → a ∉ G → J a = none → J' a = none := vw
    have h3 : ∀ a ∈ G', a ∈ G ∨ H a = none := h3
    have nG' : ∀ a ∈ F, a ∉ G := fun a ha hb => dj a ha a hb rfl
    have k1 : ∀ a ∈ F, H' a = H a := fun a ha => by
      obtain ⟨_, u, e, _⟩ := at' a ha
      rw [e, f a u e (nG' a ha)]
    have k2 : ∀ a ∈ F, J' a = none := fun a ha => by
      obtain ⟨e1, u, e, _⟩ := at' a ha
      exact vw a (by rw [e]; exact fun z => nomatch z) (nG' a ha) e1
    refine ⟨w, fun a u e hn => ?_, fun a e => s.th a (th a e), fun a e hn hj => ?_, F ++ G', build _ _ _ _ _ h1 x k1 k2, List.nodup_append.mpr ⟨nF, h2, fun a ha b hb e => ?_⟩, fun a ha => ?_⟩
    · refine f a u (s.fr a u e hn) fun hg => ?_
      rcases eG a hg with q | q
      · exact hn q
      · rw [e] at q; cases q
    · refine vw a (fun z => e (s.th a z)) (fun hg => ?_) (s.vw a e hn hj)
      rcases eG a hg with q | q
      · exact hn q
      · exact e q
    · subst e
      rcases h3 a hb with q | q
      · exact nG' a ha q
      · obtain ⟨_, u, e, _⟩ := at' a ha
        rw [e] at q; cases q
    · rcases List.mem_append.mp ha with ha | ha
      · exact eF a ha
      · rcases h3 a ha with q | q
        · exact eG a q
        · exact .inr (s.th a q)
  obtain ⟨w, f, th, vw, G, h1, h2, h3⟩ := id s
  cases h1 with
  | un h => exact go G [] h h2 List.nodup_nil (fun a ha => by cases ha) (fun a ha => by cases ha) h3 (fun a ha => by cases ha) fun cs' σ' J' H' G' q _ _ _ => .un q
  | fz r h => exact go G [] h h2 List.nodup_nil (fun a ha => by cases ha) (fun a ha => by cases ha) h3 (fun a ha => by cases ha) fun cs' σ' J' H' G' q x _ _ => .fz (r.ex x) q
  | @ow _ _ _ F _ _ G r h =>
    obtain ⟨n1, n2, n3⟩ := List.nodup_append.mp h2
    exact go G F h n2 n1 n3 r.at (fun a ha => h3 a (List.mem_append_right _ ha)) (fun a ha => h3 a (List.mem_append_left _ ha)) fun cs' σ' J' H' G' q x k1 k2 => .ow (r.mono x k1 k2) q
/-- a new heap beside: an owned address rewritten -/
theorem Wf.put {q : Addr} {o : HO} (w : Wf J H) (hj : J q = none) (ho : ∀ xs, o ≠ .tup xs) : Wf J (upd H q o) := by
  have ne : ∀ {a u}, J a = some u → a ≠ q := fun {a u} e z => by rw [z, hj] at e; cases e
  refine ⟨⟨fun a u h => ?_, fun a xs h => ?_, fun a xs h => ?_⟩, fun a xs h => ?_, fun a h => ?_⟩
  · have hn : a ≠ q := by
      rcases h with h | ⟨o, h⟩
      · exact ne h
      · exact ne h
    have := w.sub.rd a u h
    unfold Rd at this ⊢
    rw [upd_ne hn]
    exact this
  · rw [upd_ne (ne h)]; exact w.sub.ls a xs h
  · rw [upd_ne (ne h)]; exact w.sub.ts a xs h
  · by_cases e : a = q
    · subst e
      rw [upd_same] at h
      exact absurd (Option.some.inj h) (ho xs)
    · rw [upd_ne e] at h
      exact w.tup a xs h
  · by_cases e : a = q
    · subst e; exact hj
    · rw [upd_ne e] at h; exact w.dom a h
/-- the owned thing on top rewritten at one of its addresses -/
theorem Sta.rewrite {s s' : Sh} {d' : D} {q : Addr} {u : HO} {v' : V} (st : Sta K en (.ow s d :: cs) (some v :: σ) J H) (hu : Own1 u)
    (h : ∀ F, Ow K J H s v d F → q ∈ F ∧ Ow K J (upd H q u) s' v' d' F) : Sta K en (.ow s' d' :: cs) (some v' :: σ) J (upd H q u) := by
  obtain ⟨w, f, th, vw, G, h1, h2, h3⟩ := st
  cases h1 with
  | @ow _ _ _ F _ _ G r hs =>
    obtain ⟨hq, r'⟩ := h F r
    obtain ⟨n1, n2, n3⟩ := List.nodup_append.mp h2
    obtain ⟨hj, ou, eo, _⟩ := r.at q hq
    refine ⟨w.put hj fun xs z => by rw [z] at hu; exact hu, fun a o e hn => ?_, fun a e => ?_, vw, F ++ G, .ow r' (hs.mono (.refl J) (fun a ha => upd_ne fun z => n3 q hq a ha z.symm) fun a ha => (hs.at a ha).1), h2, h3⟩
    · by_cases z : a = q
      · subst z
        rcases h3 a (List.mem_append_left _ hq) with y | y
        · exact absurd y hn
        · rw [e] at y; cases y
      · rw [upd_ne z]; exact f a o e hn
    · by_cases z : a = q
      · subst z; rw [upd_same] at e; cases e
      · rw [upd_ne z] at e; exact th a e
theorem All3.snoc {R : V → D → List Addr → Prop} : ∀ {vs : List V} {ds : List D} {G : List Addr} {v : V} {d : D}, All3 R vs ds G → R v d [] → All3 R (vs ++ [v]) (ds ++ [d]) G
  | _, _, _, _, _, .nil, h => .cons (F := []) h .nil
  | _, _, _, _, _, .cons h r, g => .cons h (All3.snoc r g)
theorem Sta.appendTop {a : Addr} {xs : List V} {ds : List D} {y : V} {e : D} (st : Sta K en (.ow (.l .fz) (.list ds) :: cs) (some (.ref a) :: σ) J H) (ha : H a = some (.lst xs)) (r : Rp K J y e) :
    Sta K en (.ow (.l .fz) (.list (ds ++ [e])) :: cs) (some (.ref a) :: σ) J (upd H a (.lst (xs ++ [y]))) := by
  refine st.rewrite trivial fun F hF => ?_
  obtain ⟨a', xs', ds', G, e1, e2, e3, e4, e5, e6⟩ := hF
  cases e1
  cases e2
  rw [ha] at e3
  cases e3
  have hG : ∀ b ∈ G, False := fun b hb => e5.mem (P := fun _ => False) (fun v d F h b hb => by rw [h.2] at hb; cases hb) b hb
  refine ⟨by rw [e6]; exact List.mem_cons_self, a, xs ++ [y], ds ++ [e], G, rfl, rfl, upd_same, e4, ?_, e6⟩
  have q : All3 (Ow K J (upd H a (.lst (xs ++ [y]))) .fz) xs ds G := e5.imp fun v d F _ h => h
  exact q.snoc ⟨r, rfl⟩
/-- the frozen view of the thing on top, with what is new in it -/
theorem Sta.freezeN {s : Sh} (st : Sta K en (.ow s d :: cs) (some v :: σ) J H) : ∃ J' F, Ow K J H s v d F ∧ Ex J J' ∧ Sta K en (.fz d :: cs) (some v :: σ) J' H ∧ ∀ a, a ∉ F → J' a = J a := by
  obtain ⟨w, f, th, vw, G, h1, h2, h3⟩ := st
  cases h1 with
  | @ow _ _ _ F _ _ G r h =>
    obtain ⟨n1, n2, n3⟩ := List.nodup_append.mp h2
    have ex : Ex J (fun a => if a ∈ F then H a else J a) := fun a u e => by
      by_cases ha : a ∈ F
      · rw [(r.at a ha).1] at e; cases e
      · exact (if_neg ha).trans e
    refine ⟨fun a => if a ∈ F then H a else J a, F, r, ex, ⟨⟨⟨fun a u e => ?_, fun a xs e => ?_, fun a xs e => ?_⟩, fun a xs e => ?_, fun a e => ?_⟩, f, th, fun a e hn hj => ?_, G, ?_, n2, fun a ha => h3 a (List.mem_append_right _ ha)⟩, fun a ha => if_neg ha⟩
    · by_cases ha : a ∈ F
      · rcases e with e | ⟨o, e⟩
        · exact .inl ((if_pos ha).symm.trans e)
        · exact .inr ⟨o, (if_pos ha).symm.trans e⟩
      · refine w.sub.rd a u ?_
        rcases e with e | ⟨o, e⟩
        · exact .inl ((if_neg ha).symm.trans e)
        · exact .inr ⟨o, (if_neg ha).symm.trans e⟩
    · by_cases ha : a ∈ F
      · exact (if_pos ha).symm.trans e
      · exact w.sub.ls a xs ((if_neg ha).symm.trans e)
    · by_cases ha : a ∈ F
      · exact (if_pos ha).symm.trans e
      · exact w.sub.ts a xs ((if_neg ha).symm.trans e)
    · exact ex a _ (w.tup a xs e)
    · by_cases ha : a ∈ F
      · exact (if_pos ha).trans e
      · exact (if_neg ha).trans (w.dom a e)
    · refine (if_neg fun ha => ?_).trans (vw a e hn hj)
      rcases h3 a (List.mem_append_left _ ha) with q | q
      · exact hn q
      · exact e q
    · refine .fz (r.rp ex.le fun a ha => if_pos ha) (h.mono ex (fun _ _ => rfl) fun a ha => ?_)
      have hn : a ∉ F := fun q => n3 a q a ha rfl
      exact (if_neg hn).trans (h.at a ha).1
end

/-! ### targets -/
abbrev MG := D → List Cell → Option (List Cell)
def G (K : PySem.W.Frag) (vs : List Nat) (g : TG) (m : MG) : Prop := ∀ d cs cs', m d cs = some cs' → ∀ en σ J H x, Sta K en cs σ J H → Rp K J x d → ∀ Q : L2.St → Hp → Prop,
  (∀ σ', Sta K en cs' σ' J H → wipe σ' vs = wipe σ vs → Q σ' H) → g x σ H Q
def GX (F : Fm) (vs : List Nat) (tg : Expr) (m : MG) : Prop := ∃ g, (∀ X, F.mem X → PG X tg g) ∧ G F.K vs g m
abbrev MGs := List D → List Cell → Option (List Cell)
def Gs (K : PySem.W.Frag) (vs : List Nat) (g : TGs) (m : MGs) : Prop := ∀ ds cs cs', m ds cs = some cs' → ∀ en σ J H xs, Sta K en cs σ J H → RpAll K J xs ds → ∀ Q : L2.St → Hp → Prop,
  (∀ σ', Sta K en cs' σ' J H → wipe σ' vs = wipe σ vs → Q σ' H) → g xs σ H Q
def GsX (F : Fm) (vs : List Nat) (tgs : List Expr) (m : MGs) : Prop := ∃ g, (∀ X, F.mem X → PGs X tgs g) ∧ Gs F.K vs g m
def mgName (i : Nat) : MG := fun d cs => if i < cs.length then some (cs.set i (.fz d)) else none
def mgNil : MGs := fun ds cs => match ds with
  | [] => some cs
  | _ => none
def mgCons (m : MG) (ms : MGs) : MGs := fun ds cs => match ds with
  | d :: ds => match m d cs with
    | some cs1 => ms ds cs1
    | none => none
  | [] => none
def mgTup (n : Nat) (ms : MGs) : MG := fun d cs => match d with
  | .tuple ds => if ds.length = n then ms ds cs else none
  | _ => none
theorem wipe_set_out {x : Option V} {i : Nat} : ∀ {vs : List Nat} (σ : L2.St), i ∉ vs → wipe (σ.set i x) vs = (wipe σ vs).set i x
  | [], _, _ => rfl
  | v :: vs, σ, h => by
    simp only [List.mem_cons, not_or] at h
    show (wipe (σ.set i x) vs).set v none = ((wipe σ vs).set v none).set i x
    rw [wipe_set_out σ h.2, List.set_comm _ _ h.1]
theorem wipe_set_in {x : Option V} {i : Nat} : ∀ {vs : List Nat} (σ : L2.St), i ∈ vs → wipe (σ.set i x) vs = wipe σ vs
  | [], _, h => by cases h
  | v :: vs, σ, h => by
    show (wipe (σ.set i x) vs).set v none = (wipe σ vs).set v none
    by_cases hi : i ∈ vs
    · rw [wipe_set_in σ hi]
    · rcases List.mem_cons.mp h with e | e
      · subst e
        rw [wipe_set_out σ hi, List.set_set]
      · exact absurd e hi
section
variable {F : Fm} {vs : List Nat} {pos : Pos}
theorem gx_name (i : Nat) {x : Str} (hi : F.N[i]? = some x) (hx : Loc F.sc x) (hf : F.fn x = true ∨ F.sc.names.lookup x = some .local) (hv : i ∈ vs) : GX F vs (.Name x pos) (mgName i) :=
  ⟨gName i, fun X hX => pg_name (by rw [F.hN X hX]; exact F.nd) (by rw [F.hN X hX]; exact hi) (by rw [F.hsc X hX]; exact hx) (by rw [F.hsc X hX, F.hfn X hX]; exact hf), fun d cs cs' hm en σ J H x s r Q q => by
    unfold mgName at hm
    split at hm
    · next hl =>
      cases hm
      exact q _ ((s.pushFz r).setFz hl) (wipe_set_in σ hv)
    · cases hm⟩
theorem gsx_nil : GsX F vs [] mgNil := ⟨gNil, fun X hX => pgs_nil, fun ds cs cs' hm en σ J H xs s r Q q => by
  unfold mgNil at hm
  split at hm
  · cases hm
    cases r
    exact ⟨rfl, q σ s rfl⟩
  · cases hm⟩
theorem gsx_cons {e : Expr} {es : List Expr} {m : MG} {ms : MGs} (h : GX F vs e m) (hs : GsX F vs es ms) (hst : ∀ env, (assignEach (e :: es) env).map (·.2) = assign e env :: (assignEach es env).map (·.2)) : GsX F vs (e :: es) (mgCons m ms) := by
  obtain ⟨g, h1, h2⟩ := h
  obtain ⟨gs, g1, g2⟩ := hs
  refine ⟨gCons g gs, fun X hX => pgs_cons (h1 X hX) (g1 X hX) (hst _), fun ds cs cs' hm en σ J H xs s r Q q => ?_⟩
  unfold mgCons at hm
  split at hm
  · split at hm
    · next cs1 he =>
      cases r with
      | cons r1 r2 =>
        refine ⟨_, _, rfl, h2 _ _ _ he en σ J H _ s r1 _ fun σ1 s1 w1 => ?_⟩
        exact g2 _ _ _ hm en σ1 J H _ s1 r2 _ fun σ2 s2 w2 => q σ2 s2 (w2.trans w1)
    · cases hm
  · cases hm
theorem gx_tup {es : List Expr} {k n : Nat} {ms : MGs} (h : GsX F vs es ms) (hn : ∀ env, (assignEach es env).length = n) (hst : ∀ env, (assignEach es env).findIdx? (·.1) = none) : GX F vs (.Tuple es k pos) (mgTup n ms) := by
  obtain ⟨g, h1, h2⟩ := h
  refine ⟨gTup F.K n g, fun X hX => by rw [← F.hK X hX]; exact pg_tup (F.calm X hX) (h1 X hX) (hn _) (hst _), fun d cs cs' hm en σ J H x s r Q q => ?_⟩
  unfold mgTup at hm
  split at hm
  · split at hm
    · next hl =>
      cases r with
      | tup e1 a1 => exact ⟨_, _, rfl, SqT.of (s.wf.sub.ts _ _ e1), by rw [a1.length]; exact hl, h2 _ _ _ hm en σ J H _ s a1 Q q⟩
    · cases hm
  · cases hm
end

/-! ### comprehensions -/
def Fm.blk (F : Fm) (scope : Scope) : Fm where
  P := F.P
  w := F.w
  K := F.K
  mg := F.mg
  base := F.base
  N := F.N
  sc := relS scope F.sc
  fn := fun x => scope.names.lookup x == some .cell
  k := F.k
  mem := fun Y => ∃ (X : Cx) (s : Shared) (H : Hp) (C : Addr) (cl : List (Str × Addr)) (fp : List Addr), F.mem X ∧ Y = X.blk s H scope (compEnvC scope cl C X.env) fp
  hP := fun Y ⟨X, s, H, C, cl, fp, h, e⟩ => by subst e; exact F.hP X h
  hw := fun Y ⟨X, s, H, C, cl, fp, h, e⟩ => by subst e; exact F.hw X h
  hK := fun Y ⟨X, s, H, C, cl, fp, h, e⟩ => by subst e; exact F.hK X h
  hmg := fun Y ⟨X, s, H, C, cl, fp, h, e⟩ => by subst e; exact F.hmg X h
  hbase := fun Y ⟨X, s, H, C, cl, fp, h, e⟩ => by subst e; exact F.hbase X h
  hN := fun Y ⟨X, s, H, C, cl, fp, h, e⟩ => by subst e; exact F.hN X h
  hsc := fun Y ⟨X, s, H, C, cl, fp, h, e⟩ => by subst e; show relS scope X.env.scope = _; rw [F.hsc X h]
  hfn := fun Y ⟨X, s, H, C, cl, fp, h, e⟩ => by subst e; rfl
  calm := fun Y ⟨X, s, H, C, cl, fp, h, e⟩ => by subst e; exact F.calm X h
  room := fun Y ⟨X, s, H, C, cl, fp, h, e⟩ => by subst e; exact F.room X h
  gd := fun Y ⟨X, s, H, C, cl, fp, h, e⟩ => by subst e; exact F.gd X h
  xe := fun Y ⟨X, s, H, C, cl, fp, h, e⟩ => by subst e; rfl
  nd := F.nd
def wipeC (cs : List Cell) : List Nat → List Cell
  | [] => cs
  | v :: vs => (wipeC cs vs).set v .un
def oldC : Option Cell → Cell
  | some (.fz d) => .fz d
  | _ => .un
def restC (o cs : List Cell) : List Nat → List Cell
  | [] => cs
  | v :: vs => (restC o cs vs).set v (oldC o[v]?)
def lcGo (vs : List Nat) (mg : MG) (mt : MT) (me : M) : List D → List Cell → Option (List D × List Cell)
  | [], cs => some ([], cs)
  | d :: ds, cs => match mg d (wipeC cs vs) with
    | some c1 => match mt c1 with
      | some (true, c2) => match me c2 with
        | some (.fz y, c3) => match lcGo vs mg mt me ds c3 with
          | some (ys, c4) => some (y :: ys, c4)
          | none => none
        | _ => none
      | some (false, c2) => lcGo vs mg mt me ds c2
      | none => none
    | none => none
def mLc (vs : List Nat) (mi : MI) (mg : MG) (mt : MT) (me : M) : M := fun cs => match mi cs with
  | some (ds, cs1) => if ds.length ≤ LIM then match lcGo vs mg mt me ds cs1 with
    | some (ys, cs2) => some (.fz (.list ys), restC cs1 (wipeC cs2 vs) vs)
    | none => none
    else none
  | none => none
def mLcO (vs : List Nat) (mi : MI) (mg : MG) (mt : MT) (me : M) : M := fun cs => match mi cs with
  | some (ds, cs1) => if ds.length ≤ LIM then match lcGo vs mg mt me ds cs1 with
    | some (ys, cs2) => some (.ow (.l .fz) (.list ys), restC cs1 (wipeC cs2 vs) vs)
    | none => none
    else none
  | none => none
def mYes : MT := fun cs => some (true, cs)
def TsX (F : Fm) (p : Bool) (es : List Expr) (m : MT) : Prop := ∃ te, (∀ X, F.mem X → PTs X es te) ∧ T F.K p te m
section
variable {K : PySem.W.Frag} {J J' H H' : Hp} {en : Ent} {cs cs' : List Cell} {σ : L2.St} {p : Bool} {vs : List Nat}
theorem Sta.wipeAll (s : Sta K en cs σ J H) : ∀ vs : List Nat, Sta K en (wipeC cs vs) (L2.wipe σ vs) J H
  | [] => s
  | v :: vs => (Sta.wipeAll s vs).wipe v none
theorem wipe_get (σ : L2.St) {i : Nat} : ∀ vs : List Nat, i ∉ vs → (wipe σ vs)[i]? = σ[i]?
  | [], _ => rfl
  | v :: vs, h => by
    simp only [List.mem_cons, not_or] at h
    show ((wipe σ vs).set v none)[i]? = _
    rw [List.getElem?_set_ne (Ne.symm h.1)]
    exact wipe_get σ vs h.2
/-- the names of the block forgotten, the def's own values there again -/
def backS (σ τ : L2.St) : List Nat → L2.St
  | [] => τ
  | v :: vs => (backS σ τ vs).set v ((σ[v]?).getD none)
theorem backS_length (σ τ : L2.St) : ∀ vs : List Nat, (backS σ τ vs).length = τ.length
  | [] => rfl
  | v :: vs => by
    show ((backS σ τ vs).set v _).length = _
    rw [List.length_set, backS_length σ τ vs]
theorem backS_get (σ : L2.St) : ∀ (vs : List Nat) (τ : L2.St), τ.length = σ.length → (∀ i, i ∉ vs → τ[i]? = σ[i]?) → backS σ τ vs = σ
  | [], τ, _, h => List.ext_getElem? fun i => h i (by simp)
  | v :: vs, τ, hl, h => by
    show (backS σ τ vs).set v ((σ[v]?).getD none) = σ
    have e : ∀ (u : Nat) (l : List Nat) (ρ : L2.St) (x : Option V), u ∉ l → (backS σ ρ l).set u x = backS σ (ρ.set u x) l := by
      intro u l
      induction l with
      | nil => intro ρ x _; rfl
      | cons w l ih =>
        intro ρ x hu
        simp only [List.mem_cons, not_or] at hu
        show ((backS σ ρ l).set w _).set u x = (backS σ (ρ.set u x) l).set w _
        rw [List.set_comm _ _ (Ne.symm hu.1), ih ρ x hu.2]
    by_cases hv : v ∈ vs
    · have := backS_get σ vs τ hl fun i hi => h i (by
        simp only [List.mem_cons, not_or]
        exact ⟨fun z => hi (z ▸ hv), hi⟩)
      rw [this]
      by_cases hlt : v < σ.length
      · rw [List.getElem?_eq_getElem hlt]
        exact list_set_self σ v _ (List.getElem?_eq_getElem hlt)
      · exact List.set_eq_of_length_le (by omega)
    · rw [e v vs τ _ hv]
      refine backS_get σ vs _ (by rw [List.length_set]; exact hl) fun i hi => ?_
      by_cases z : i = v
      · subst z
        by_cases hlt : i < σ.length
        · rw [List.getElem?_set_self (by omega), List.getElem?_eq_getElem hlt]
          rfl
        · rw [List.getElem?_eq_none (by rw [List.length_set]; omega), List.getElem?_eq_none (by omega)]
      · rw [List.getElem?_set_ne (Ne.symm z)]
        exact h i (by simp only [List.mem_cons, not_or]; exact ⟨z, hi⟩)
theorem Sta.restOne {o : List Cell} {σ τ : L2.St} {v : Nat} (s : Sta K en cs τ J H) (h : ∀ (i : Nat) (d : D), o[i]? = some (Cell.fz d) → ∃ x, σ[i]? = some (some x) ∧ Rp K J x d) (hl : cs.length = o.length) : Sta K en (cs.set v (oldC o[v]?)) (τ.set v ((σ[v]?).getD none)) J H := by
  unfold oldC
  split
  · next d he =>
    obtain ⟨x, h1, h2⟩ := h v d he
    rw [h1]
    have hv : v < cs.length := by
      rw [hl]
      exact (List.getElem?_eq_some_iff.mp he).1
    exact (s.pushFz h2).setFz hv
  · exact Sta.wipe s v _
theorem restC_length (o cs : List Cell) : ∀ vs : List Nat, (restC o cs vs).length = cs.length
  | [] => rfl
  | v :: vs => by
    show ((restC o cs vs).set v _).length = _
    rw [List.length_set, restC_length o cs vs]
theorem Sta.rest {o : List Cell} {σ τ : L2.St} (s : Sta K en cs τ J H) (h : ∀ (i : Nat) (d : D), o[i]? = some (Cell.fz d) → ∃ x, σ[i]? = some (some x) ∧ Rp K J x d) (hl : cs.length = o.length) : ∀ vs : List Nat, Sta K en (restC o cs vs) (backS σ τ vs) J H
  | [] => s
  | v :: vs => (Sta.rest s h hl vs).restOne h (by rw [restC_length]; exact hl)
theorem Sta.restAll {o : List Cell} {σ : L2.St} (s : Sta K en cs (L2.wipe σ vs) J H) (h : ∀ (i : Nat) (d : D), o[i]? = some (Cell.fz d) → ∃ x, σ[i]? = some (some x) ∧ Rp K J x d) (hl : o.length = σ.length) : Sta K en (restC o cs vs) σ J H := by
  have e := s.len
  rw [wipe_length] at e
  have q := s.rest h (by omega) vs
  rw [backS_get σ vs (L2.wipe σ vs) (wipe_length σ vs) fun i hi => wipe_get σ vs hi] at q
  exact q
/-- as E; and owned data that comes of a pure walk is new -/
def EO (K : PySem.W.Frag) (p : Bool) (te : TE) (m : M) : Prop :=
  ∀ cs c cs', m cs = some (c, cs') → ∀ en σ J H, Sta K en cs σ J H → ∀ Q : VK,
    (∀ v J' H', Sta K en (c :: cs') (some v :: σ) J' H' → Ex J J' → (p = true → Nw J H J' H') → (p = true → ∀ s d F, c = .ow s d → Ow K J' H' s v d F → ∀ a ∈ F, H a = none) → Q v H') → te σ H Q
theorem EO.e {te : TE} {m : M} (h : EO K p te m) : E K p te m := fun cs c cs' hm en σ J H s Q q => h cs c cs' hm en σ J H s Q fun v J' H' s' x n _ => q v J' H' s' x n
def mFrzP (m : M) : M := fun cs => match m cs with
  | some (.ow _ d, cs') => some (.fz d, cs')
  | _ => none
theorem EO.frz {te : TE} {m : M} (h : EO K p te m) : E K p te (mFrzP m) := fun cs c cs' hm en σ J H s Q q => by
  unfold mFrzP at hm
  split at hm
  · next sh d cs1 he =>
    cases hm
    refine h _ _ _ he en σ J H s Q fun v J' H' s' x n f => ?_
    obtain ⟨J2, F, ho, e2, s2, out⟩ := s'.freezeN
    refine q v J2 H' s2 (x.trans e2) fun hp => ?_
    have nn := n hp
    exact ⟨nn.j.trans e2, nn.h, s2.wf, fun a h1 h2 => (out a fun ha => h2 (f hp sh d F rfl ho a ha)).trans (nn.fr a h1 h2)⟩
  · cases hm
/-- the loop of a comprehension -/
theorem lc_run {wi : TI} {g : TG} {tt : TT} {te : TE} {mi : MI} {mg : MG} {mt : MT} {me : M} (hi : I K p wi mi) (hg : G K vs g mg) (ht : T K p tt mt) (he : E K p te me) : EO K p (tLc wi g tt te vs) (mLcO vs mi mg mt me) := fun cs c cs' hm en σ J H s Q q => by
  unfold mLcO at hm
  split at hm
  · next ds cs1 h1 =>
    split at hm
    · next hl =>
      split at hm
      · next ysF csF h2 =>
        cases hm
        refine hi _ _ _ h1 en σ J H s _ fun it J1 H1 s1 x1 n1 hit => fun Da hD => ?_
        have nD := Nw.own (o := .lst []) s1.wf hD fun _ z => nomatch z
        have sD : Sta K en (.ow (.l .fz) (.list []) :: wipeC cs1 vs) (some (.ref Da) :: wipe σ vs) J1 (upd H1 Da (.lst [])) :=
          (s1.wipeAll vs).pushOw nD (G := [Da]) ⟨Da, [], [], [], rfl, rfl, upd_same, s1.wf.dom Da hD, .nil, rfl⟩ (by simp) (fun b hb => by simp at hb; subst hb; exact hD)
        refine ⟨fun i m H2 => m = ds.length - i ∧ i ≤ ds.length ∧ ∃ J2 acc csi ys, Sta K en (.ow (.l .fz) (.list acc) :: wipeC csi vs) (some (.ref Da) :: wipe σ vs) J2 H2 ∧ Ex J1 J2 ∧ (p = true → Nw J1 H1 J2 H2) ∧ acc.length ≤ i ∧ lcGo vs mg mt me (ds.drop i) csi = some (ys, csF) ∧ acc ++ ys = ysF,
          ⟨ds.length, by simp, Nat.zero_le _, J1, [], cs1, ysF, sD, .refl J1, fun _ => nD, Nat.le_refl _, by simpa using h2, rfl⟩, fun i m H2 hW => ?_⟩
        obtain ⟨rfl, hil, J2, acc, csi, ys, s2, x2, n2, hacc, hgo, hys⟩ := hW
        obtain ⟨it1, it2⟩ := hit J2 H2 s2.wf x2
        by_cases hlt : i < ds.length
        · obtain ⟨go, yl⟩ := it1 i ds[i] (List.getElem?_eq_getElem hlt)
          refine .inr ⟨go, fun H3 => ∃ J3 acc' csi' ys', Sta K en (.ow (.l .fz) (.list acc') :: wipeC csi' vs) (some (.ref Da) :: wipe σ vs) J3 H3 ∧ Ex J1 J3 ∧ (p = true → Nw J1 H1 J3 H3) ∧ acc'.length ≤ i + 1 ∧ lcGo vs mg mt me (ds.drop (i + 1)) csi' = some (ys', csF) ∧ acc' ++ ys' = ysF,
            fun H3 hN => ⟨ds.length - (i + 1), by omega, rfl, hlt, hN⟩, fun x H3 hy => ?_⟩
          obtain ⟨J3, n3, r3⟩ := yl x H3 hy
          have s3 := s2.nw n3
          rw [List.drop_eq_getElem_cons hlt] at hgo
          unfold lcGo at hgo
          split at hgo
          · next c1 e1 =>
            obtain ⟨en', u1, u2⟩ := s3.under
            refine hg _ _ _ e1 en' (wipe σ vs) J3 H3 x u1 r3 _ fun σ2 s4 hw => ⟨?_, ?_⟩
            · have : wipe (wipe σ vs) vs = wipe σ vs := by
                refine List.ext_getElem? fun j => ?_
                by_cases hj : j ∈ vs
                · by_cases hjl : j < σ.length
                  · have z : ∀ (l : List Nat) (ρ : L2.St), j ∈ l → j < ρ.length → (wipe ρ l)[j]? = some none := by
                      intro l
                      induction l with
                      | nil => intro _ h; cases h
                      | cons w l ih =>
                        intro ρ h hr
                        show ((wipe ρ l).set w none)[j]? = some none
                        by_cases hw : w = j
                        · subst hw
                          rw [List.getElem?_set_self (by rw [wipe_length]; exact hr)]
                        · rw [List.getElem?_set_ne hw]
                          rcases List.mem_cons.mp h with e | e
                          · exact absurd e.symm hw
                          · exact ih ρ e hr
                    rw [z vs _ hj (by rw [wipe_length]; exact hjl), z vs σ hj hjl]
                  · rw [List.getElem?_eq_none (by rw [wipe_length, wipe_length]; omega), List.getElem?_eq_none (by rw [wipe_length]; omega)]
                · exact wipe_get _ vs hj
              rw [hw, this]
            · have hl2 : ∀ ρ, wipe ρ vs = wipe (wipe σ vs) vs → wipe ρ vs = wipe σ vs := fun ρ h => by
                rw [h]
                refine List.ext_getElem? fun j => ?_
                by_cases hj : j ∈ vs
                · by_cases hjl : j < σ.length
                  · have z : ∀ (l : List Nat) (ρ : L2.St), j ∈ l → j < ρ.length → (wipe ρ l)[j]? = some none := by
                      intro l
                      induction l with
                      | nil => intro _ h; cases h
                      | cons w l ih =>
                        intro ρ h hr
                        show ((wipe ρ l).set w none)[j]? = some none
                        by_cases hw : w = j
                        · subst hw
                          rw [List.getElem?_set_self (by rw [wipe_length]; exact hr)]
                        · rw [List.getElem?_set_ne hw]
                          rcases List.mem_cons.mp h with e | e
                          · exact absurd e.symm hw
                          · exact ih ρ e hr
                    rw [z vs _ hj (by rw [wipe_length]; exact hjl), z vs σ hj hjl]
                  · rw [List.getElem?_eq_none (by rw [wipe_length, wipe_length]; omega), List.getElem?_eq_none (by rw [wipe_length]; omega)]
                · exact wipe_get _ vs hj
              have hw2 := hl2 σ2 hw
              have n23 : p = true → Nw J1 H1 J3 H3 := Nw.and n2 fun _ => n3
              split at hgo
              · next c2 e2 =>
                split at hgo
                · next y c3 e3 =>
                  split at hgo
                  · next ys' c4 e4 =>
                    cases hgo
                    refine ht _ _ _ e2 en' σ2 J3 H3 s4 _ fun J4 H4 s5 x5 n5 => ?_
                    rw [if_pos rfl]
                    refine he _ _ _ e3 en' σ2 J4 H4 s5 _ fun yv J5 H5 s6 x6 n6 => ?_
                    have s7 := u2 _ _ _ _ (s6.pop.wipeAll vs) (x5.trans x6)
                    rw [hw2] at s7
                    have top : ∃ xs, H5 Da = some (.lst xs) ∧ xs.length = acc.length := by
                      obtain ⟨_, _, _, _, G, g1, _, _⟩ := id s7
                      cases g1 with
                      | ow r _ =>
                        obtain ⟨a', xs', ds', G', q1, q2, q3, q4, q5, q6⟩ := r
                        cases q1
                        cases q2
                        exact ⟨xs', q3, (q5.all (J := J5) fun v d F _ h => h.1).length⟩
                    obtain ⟨xs, hxs, hlx⟩ := top
                    have hLIM := lim_line
                    refine ⟨xs, hxs, by omega, J5, acc ++ [y], c3, ys', s7.appendTop hxs s6.headFz, ((x2.trans n3.j).trans x5).trans x6, fun hp => ?_, by simp; omega, e4, by simpa using hys⟩
                    have nn := Nw.and (Nw.and n23 n5) n6 hp
                    exact ⟨nn.j, fun a o e => by rw [upd_ne fun z => by rw [z, hD] at e; cases e]; exact nn.h a o e, (s7.appendTop hxs s6.headFz).wf, nn.fr⟩
                  · cases hgo
                · cases hgo
              · next c2 e2 =>
                refine ht _ _ _ e2 en' σ2 J3 H3 s4 _ fun J4 H4 s5 x5 n5 => ?_
                rw [if_neg Bool.false_ne_true]
                have s7 := u2 _ _ _ _ (s5.wipeAll vs) x5
                rw [hw2] at s7
                exact ⟨J4, acc, c2, ys, s7, (x2.trans n3.j).trans x5, Nw.and n23 n5, by omega, hgo, hys⟩
              · cases hgo
          · cases hgo
        · have e : i = ds.length := by omega
          subst e
          rw [List.drop_length] at hgo
          cases hgo
          rw [List.append_nil] at hys
          subst hys
          refine .inl ⟨it2, ?_⟩
          obtain ⟨en', u1, u2⟩ := s2.under
          have s3 := u2 _ _ _ _ (u1.restAll (o := cs1) (σ := σ) (fun j d hj => by
            obtain ⟨x, h3, h4⟩ := s1.getFz hj
            exact ⟨x, h3, h4.ex x2⟩) s1.len) (.refl J2)
          refine q _ J2 H2 s3 (x1.trans x2) (Nw.and n1 n2) fun hp s d F ec ho a ha => (n1 hp).h.back ?_
          cases ec
          obtain ⟨a', xs', ds', G', q1, q2, q3, q4, q5, q6⟩ := ho
          cases q1
          subst q6
          rcases List.mem_cons.mp ha with z | z
          · rw [z]; exact hD
          · exact (q5.mem (P := fun _ => False) (fun v d F h b hb => by rw [h.2] at hb; cases hb) a z).elim
      · cases hm
    · cases hm
  · cases hm
variable {F : Fm} {elt tg iter : Expr} {ifs : List Expr} {scope : Scope} {own : List (Str × Nat)} {pos : Pos} {mi : MI} {mg : MG} {mt : MT} {me : M}
theorem tsx_nil : TsX F p [] mYes := ⟨tYes, fun _ _ => pts_nil, fun cs b cs' hm en σ J H s Q q => by
  cases hm
  exact q J H s (.refl J) fun _ => .refl s.wf⟩
theorem tsx_one {c : Expr} (h : TX F p c mt) : TsX F p [c] mt := let ⟨t, h1, h2⟩ := h; ⟨t, fun X hX => pts_one (h1 X hX), h2⟩
theorem lc_both (hi : IX F p tg iter mi) (ok : blkC F.N F.sc scope own = true) (hg : GX (F.blk scope) (own.map (·.2)) tg mg) (ht : TsX (F.blk scope) p ifs mt) (he : EX (F.blk scope) p elt me) (hs : ∀ env x, foldedSetIterable iter env x = pure x) :
    ∃ te, (∀ X, F.mem X → PE X (.ListComp elt [⟨tg, iter, ifs, 0⟩] scope pos) te) ∧ EO F.K p te (mLcO (own.map (·.2)) mi mg mt me) := by
  obtain ⟨wi, i1, i2⟩ := hi
  obtain ⟨g, g1, g2⟩ := hg
  obtain ⟨tt, t1, t2⟩ := ht
  obtain ⟨te, e1, e2⟩ := he
  refine ⟨tLc wi g tt te (own.map (·.2)), fun X hX => ?_, lc_run i2 g2 t2 e2⟩
  have mem : ∀ (s : Shared) (H : Hp) (C : Addr) (cl : List (Str × Addr)) (fp : List Addr), (F.blk scope).mem (X.blk s H scope (compEnvC scope cl C X.env) fp) := fun s H C cl fp => ⟨X, s, H, C, cl, fp, hX, rfl⟩
  exact pe_lc (F.calm X hX) (by rw [F.hN X hX]; exact F.nd) (i1 X hX) (blkOk_by (by rw [F.hN X hX, F.hsc X hX]; exact ok)) (fun s H C cl fp => g1 _ (mem s H C cl fp)) (fun s H C cl fp => t1 _ (mem s H C cl fp)) (fun s H C cl fp => e1 _ (mem s H C cl fp)) (hs _)
theorem ex_lcO (hi : IX F p tg iter mi) (ok : blkC F.N F.sc scope own = true) (hg : GX (F.blk scope) (own.map (·.2)) tg mg) (ht : TsX (F.blk scope) p ifs mt) (he : EX (F.blk scope) p elt me) (hs : ∀ env x, foldedSetIterable iter env x = pure x) :
    EX F p (.ListComp elt [⟨tg, iter, ifs, 0⟩] scope pos) (mLcO (own.map (·.2)) mi mg mt me) := let ⟨te, h1, h2⟩ := lc_both hi ok hg ht he hs; ⟨te, h1, h2.e⟩
theorem ex_lc (hi : IX F p tg iter mi) (ok : blkC F.N F.sc scope own = true) (hg : GX (F.blk scope) (own.map (·.2)) tg mg) (ht : TsX (F.blk scope) p ifs mt) (he : EX (F.blk scope) p elt me) (hs : ∀ env x, foldedSetIterable iter env x = pure x) :
    EX F p (.ListComp elt [⟨tg, iter, ifs, 0⟩] scope pos) (mFrzP (mLcO (own.map (·.2)) mi mg mt me)) := let ⟨te, h1, h2⟩ := lc_both hi ok hg ht he hs; ⟨te, h1, h2.frz⟩
end
end Mi

/-! Mi10: statements. -/
namespace Mi
open PySem PySem.Spec PyProof.Rows L2

/-- how a block ends -/
inductive Fl where
  | nx (cs : List Cell) | bk (cs : List Cell) | ct (cs : List Cell) | rt (c : Cell) (cs : List Cell)
abbrev MB := List Cell → Option Fl
def Ended (K : PySem.W.Frag) (fx : Nat) (en : Ent) (σ : L2.St) (J : Hp) (D : Ends) : Fl → Prop
  | .nx cs => ∀ σ' J' H', Sta K en cs σ' J' H' → Ex J J' → σ'.take fx = σ.take fx → D.nx σ' H'
  | .bk cs => ∀ σ' J' H', Sta K en cs σ' J' H' → Ex J J' → σ'.take fx = σ.take fx → D.bk σ' H'
  | .ct cs => ∀ σ' J' H', Sta K en cs σ' J' H' → Ex J J' → σ'.take fx = σ.take fx → D.ct σ' H'
  | .rt c cs => ∀ v σ' J' H', Sta K en (c :: cs) (some v :: σ') J' H' → Ex J J' → σ'.take fx = σ.take fx → D.rt v H'
/-- the block's reading t does what m tells; the first fx slots keep their values -/
def B (K : PySem.W.Frag) (fx : Nat) (t : TS) (m : MB) : Prop := ∀ cs fl, m cs = some fl → ∀ en σ J H, Sta K en cs σ J H → ∀ D : Ends, Ended K fx en σ J D fl → t D σ H
def SX (F : Fm) (fx : Nat) (st : Stmt) (m : MB) : Prop := ∃ t, (∀ X, F.mem X → PS X st t) ∧ B F.K fx t m
def SsX (F : Fm) (fx : Nat) (st : List Stmt) (m : MB) : Prop := ∃ t, (∀ X, F.mem X → PSs X st t) ∧ B F.K fx t m
theorem Ended.mono {K : PySem.W.Frag} {fx : Nat} {en : Ent} {σ σ1 : L2.St} {J J1 : Hp} {D : Ends} (x : Ex J J1) (e : σ1.take fx = σ.take fx) : ∀ {fl : Fl}, Ended K fx en σ J D fl → Ended K fx en σ1 J1 D fl
  | .nx _, h => fun σ' J' H' s y z => h σ' J' H' s (x.trans y) (z.trans e)
  | .bk _, h => fun σ' J' H' s y z => h σ' J' H' s (x.trans y) (z.trans e)
  | .ct _, h => fun σ' J' H' s y z => h σ' J' H' s (x.trans y) (z.trans e)
  | .rt _ _, h => fun v σ' J' H' s y z => h v σ' J' H' s (x.trans y) (z.trans e)
theorem take_set {σ : L2.St} {fx i : Nat} (h : fx ≤ i) (o : Option V) : (σ.set i o).take fx = σ.take fx := by
  rw [List.take_set, List.set_eq_of_length_le]
  rw [List.length_take]
  omega

section
variable {K : PySem.W.Frag} {fx : Nat} {p : Bool} {te : TE} {m ma mb : M} {b b' : MB} {t u : TS}
def mNx : MB := fun cs => some (.nx cs)
def mBk : MB := fun cs => some (.bk cs)
def mCt : MB := fun cs => some (.ct cs)
def mSeq (a b : MB) : MB := fun cs => match a cs with
  | some (.nx cs') => b cs'
  | r => r
theorem b_seq (h1 : B K fx t b) (h2 : B K fx u b') : B K fx (tSeq t u) (mSeq b b') := fun cs fl hm en σ J H s D q => by
  unfold mSeq at hm
  split at hm
  · next cs' he => exact h1 _ _ he en σ J H s _ fun σ' J' H' s' x e => h2 _ _ hm en σ' J' H' s' D (q.mono x e)
  · next r hr =>
    refine h1 _ _ hm en σ J H s _ ?_
    cases fl with
    | nx cs' => exact (hr _ hm).elim
    | bk cs' => exact q
    | ct cs' => exact q
    | rt c cs' => exact q
def mDrop (m : M) : MB := fun cs => match m cs with
  | some (_, cs') => some (.nx cs')
  | none => none
theorem b_drop (h : E K p te m) : B K fx (tDrop te) (mDrop m) := fun cs fl hm en σ J H s D q => by
  unfold mDrop at hm
  split at hm
  · next c cs' he =>
    cases hm
    exact h _ _ _ he en σ J H s _ fun v J' H' s' x _ => q σ J' H' s'.pop x rfl
  · cases hm
def mSet (i : Nat) (m : M) : MB := fun cs => match m cs with
  | some (c, cs') => if i < cs'.length then some (.nx (cs'.set i c)) else none
  | none => none
theorem b_set {i : Nat} (hf : fx ≤ i) (h : E K p te m) : B K fx (tAsg te (gName i)) (mSet i m) := fun cs fl hm en σ J H s D q => by
  unfold mSet at hm
  split at hm
  · next c cs' he =>
    split at hm
    · next hi =>
      cases hm
      exact h _ _ _ he en σ J H s _ fun v J' H' s' x _ => q _ J' H' (s'.set hi) x (take_set hf _)
    · cases hm
  · cases hm
/-- target = frozen data -/
def mAsg (m : M) (g : MG) : MB := fun cs => match m cs with
  | some (.fz d, cs') => match g d cs' with
    | some cs2 => some (.nx cs2)
    | none => none
  | _ => none
theorem take_of_wipe {fx : Nat} {vs : List Nat} {σ' σ : L2.St} (hv : ∀ v ∈ vs, fx ≤ v) (h : wipe σ' vs = wipe σ vs) : σ'.take fx = σ.take fx := by
  refine List.ext_getElem? fun i => ?_
  by_cases hi : i < fx
  · have hn : i ∉ vs := fun z => Nat.lt_irrefl _ (Nat.lt_of_lt_of_le hi (hv i z))
    rw [List.getElem?_take_of_lt hi, List.getElem?_take_of_lt hi, ← wipe_get σ' vs hn, ← wipe_get σ vs hn, h]
  · rw [List.getElem?_eq_none (by rw [List.length_take]; omega), List.getElem?_eq_none (by rw [List.length_take]; omega)]
theorem b_asg {vs : List Nat} {g : TG} {mg : MG} (hv : ∀ v ∈ vs, fx ≤ v) (h : E K p te m) (hg : G K vs g mg) : B K fx (tAsg te g) (mAsg m mg) := fun cs fl hm en σ J H s D q => by
  unfold mAsg at hm
  split at hm
  · next d cs' he =>
    split at hm
    · next cs2 h2 =>
      cases hm
      exact h _ _ _ he en σ J H s _ fun v J' H' s' x _ => hg _ _ _ h2 en σ J' H' v s'.pop s'.headFz _ fun σ' s2 w => q _ J' H' s2 x (take_of_wipe hv w)
    · cases hm
  · cases hm
def mRet (m : M) : MB := fun cs => match m cs with
  | some (c, cs') => some (.rt c cs')
  | none => none
theorem b_ret (h : E K p te m) : B K fx (tRet te) (mRet m) := fun cs fl hm en σ J H s D q => by
  unfold mRet at hm
  split at hm
  · next c cs' he =>
    cases hm
    exact h _ _ _ he en σ J H s _ fun v J' H' s' x _ => q v σ J' H' s' x rfl
  · cases hm
def mIfS (c : MT) (a b : MB) : MB := fun cs => match c cs with
  | some (true, cs') => a cs'
  | some (false, cs') => b cs'
  | none => none
theorem b_if {tc : TT} {mc : MT} (hc : T K p tc mc) (h1 : B K fx t b) (h2 : B K fx u b') : B K fx (tIfS tc t u) (mIfS mc b b') := fun cs fl hm en σ J H s D q => by
  unfold mIfS at hm
  split at hm
  · next cs' he =>
    refine hc _ _ _ he en σ J H s _ fun J' H' s' x _ => ?_
    rw [if_pos rfl]
    exact h1 _ _ hm en σ J' H' s' D (q.mono x rfl)
  · next cs' he =>
    refine hc _ _ _ he en σ J H s _ fun J' H' s' x _ => ?_
    rw [if_neg Bool.false_ne_true]
    exact h2 _ _ hm en σ J' H' s' D (q.mono x rfl)
  · cases hm
/-! for -/
def forGo (mg : MG) (b : MB) : List D → List Cell → Option Fl
  | [], cs => some (.nx cs)
  | d :: ds, cs => match mg d cs with
    | some c1 => match b c1 with
      | some (.nx c2) => forGo mg b ds c2
      | some (.ct c2) => forGo mg b ds c2
      | some (.bk c2) => some (.nx c2)
      | some (.rt c c2) => some (.rt c c2)
      | none => none
    | none => none
def mFor (mi : MI) (mg : MG) (b : MB) : MB := fun cs => match mi cs with
  | some (ds, cs1) => forGo mg b ds cs1
  | none => none
theorem b_for {wi : TI} {mi : MI} {g : TG} {mg : MG} {vs : List Nat} (hv : ∀ v ∈ vs, fx ≤ v) (hi : I K p wi mi) (hg : G K vs g mg) (hb : B K fx t b) : B K fx (tFor wi g t) (mFor mi mg b) := fun cs fl hm en σ J H s D q => by
  unfold mFor at hm
  split at hm
  · next ds cs1 h1 =>
    refine hi _ _ _ h1 en σ J H s _ fun it J1 H1 s1 x1 _ hit => ?_
    refine ⟨fun i m σ' H2 => m = ds.length - i ∧ i ≤ ds.length ∧ ∃ J2 csi, Sta K en csi σ' J2 H2 ∧ Ex J1 J2 ∧ σ'.take fx = σ.take fx ∧ forGo mg b (ds.drop i) csi = some fl,
      ⟨ds.length, by simp, Nat.zero_le _, J1, cs1, s1, .refl J1, rfl, by simpa using hm⟩, fun i m σ' H2 hW => ?_⟩
    obtain ⟨rfl, hil, J2, csi, s2, x2, ef, hgo⟩ := hW
    obtain ⟨it1, it2⟩ := hit J2 H2 s2.wf x2
    by_cases hlt : i < ds.length
    · obtain ⟨go, yl⟩ := it1 i ds[i] (List.getElem?_eq_getElem hlt)
      refine .inr ⟨go, fun σ3 H3 => ∃ J3 csj, Sta K en csj σ3 J3 H3 ∧ Ex J1 J3 ∧ σ3.take fx = σ.take fx ∧ forGo mg b (ds.drop (i + 1)) csj = some fl,
        fun σ3 H3 hN => ⟨ds.length - (i + 1), by omega, rfl, hlt, hN⟩, fun x H3 hy => ?_⟩
      obtain ⟨J3, n3, r3⟩ := yl x H3 hy
      have s3 := s2.nw n3
      rw [List.drop_eq_getElem_cons hlt] at hgo
      unfold forGo at hgo
      split at hgo
      · next c1 e1 =>
        refine hg _ _ _ e1 en σ' J3 H3 x s3 r3 _ fun σ4 s4 w4 => ?_
        have e4 : σ4.take fx = σ.take fx := (take_of_wipe hv w4).trans ef
        split at hgo
        · next c2 e2 => exact hb _ _ e2 en σ4 J3 H3 s4 _ fun σ5 J5 H5 s5 x5 e5 => ⟨J5, c2, s5, (x2.trans n3.j).trans x5, e5.trans e4, hgo⟩
        · next c2 e2 => exact hb _ _ e2 en σ4 J3 H3 s4 _ fun σ5 J5 H5 s5 x5 e5 => ⟨J5, c2, s5, (x2.trans n3.j).trans x5, e5.trans e4, hgo⟩
        · next c2 e2 =>
          cases hgo
          exact hb _ _ e2 en σ4 J3 H3 s4 _ fun σ5 J5 H5 s5 x5 e5 => q σ5 J5 H5 s5 (((x1.trans x2).trans n3.j).trans x5) (e5.trans e4)
        · next c c2 e2 =>
          cases hgo
          exact hb _ _ e2 en σ4 J3 H3 s4 _ fun v σ5 J5 H5 s5 x5 e5 => q v σ5 J5 H5 s5 (((x1.trans x2).trans n3.j).trans x5) (e5.trans e4)
        · cases hgo
      · cases hgo
    · have e : i = ds.length := by omega
      subst e
      rw [List.drop_length] at hgo
      cases hgo
      exact .inl ⟨it2, q σ' J2 H2 s2 (x1.trans x2) ef⟩
  · cases hm
/-! while -/
def whileGo (mt : MT) (b : MB) : Nat → List Cell → Option Fl
  | 0, _ => none
  | n + 1, cs => match mt cs with
    | some (true, c1) => match b c1 with
      | some (.nx c2) => whileGo mt b n c2
      | some (.ct c2) => whileGo mt b n c2
      | some (.bk c2) => some (.nx c2)
      | some (.rt c c2) => some (.rt c c2)
      | none => none
    | some (false, c1) => some (.nx c1)
    | none => none
theorem b_while {tc : TT} {mt : MT} (n : Nat) (hc : T K p tc mt) (hb : B K fx t b) : B K fx (tWhile tc t) (whileGo mt b n) := fun cs fl hm en σ J H s D q => by
  refine ⟨fun m σ' H2 => ∃ J2 csi, Sta K en csi σ' J2 H2 ∧ Ex J J2 ∧ σ'.take fx = σ.take fx ∧ whileGo mt b m csi = some fl, ⟨n, J, cs, s, .refl J, rfl, hm⟩, fun m σ' H2 hW => ?_⟩
  obtain ⟨J2, csi, s2, x2, ef, hgo⟩ := hW
  cases m with
  | zero => cases hgo
  | succ m =>
    unfold whileGo at hgo
    split at hgo
    · next c1 e1 =>
      refine hc _ _ _ e1 en σ' J2 H2 s2 _ fun J3 H3 s3 x3 _ => ?_
      rw [if_pos rfl]
      refine ⟨fun σ3 H3 => ∃ J3 csj, Sta K en csj σ3 J3 H3 ∧ Ex J J3 ∧ σ3.take fx = σ.take fx ∧ whileGo mt b m csj = some fl, fun σ3 H3 hN => ⟨m, by omega, hN⟩, ?_⟩
      split at hgo
      · next c2 e2 => exact hb _ _ e2 en σ' J3 H3 s3 _ fun σ5 J5 H5 s5 x5 e5 => ⟨J5, c2, s5, (x2.trans x3).trans x5, e5.trans ef, hgo⟩
      · next c2 e2 => exact hb _ _ e2 en σ' J3 H3 s3 _ fun σ5 J5 H5 s5 x5 e5 => ⟨J5, c2, s5, (x2.trans x3).trans x5, e5.trans ef, hgo⟩
      · next c2 e2 =>
        cases hgo
        exact hb _ _ e2 en σ' J3 H3 s3 _ fun σ5 J5 H5 s5 x5 e5 => q σ5 J5 H5 s5 ((x2.trans x3).trans x5) (e5.trans ef)
      · next c c2 e2 =>
        cases hgo
        exact hb _ _ e2 en σ' J3 H3 s3 _ fun v σ5 J5 H5 s5 x5 e5 => q v σ5 J5 H5 s5 ((x2.trans x3).trans x5) (e5.trans ef)
      · cases hgo
    · next c1 e1 =>
      cases hgo
      refine hc _ _ _ e1 en σ' J2 H2 s2 _ fun J3 H3 s3 x3 _ => ?_
      rw [if_neg Bool.false_ne_true]
      exact q σ' J3 H3 s3 (x2.trans x3) ef
    · cases hgo
/-! several values, kept as cells -/
abbrev MAC := List Cell → Option (List Cell × List Cell)
def AC (K : PySem.W.Frag) (ta : TA) (m : MAC) : Prop := ∀ cs r cs', m cs = some (r, cs') → ∀ en σ J H, Sta K en cs σ J H → ∀ Q : List V → Hp → Prop,
  (∀ vs J' H', vs.length = r.length → Sta K en (r ++ cs') (vs.map some ++ σ) J' H' → Ex J J' → Q vs H') → ta σ H Q
def AcX (F : Fm) (es : List Expr) (m : MAC) : Prop := ∃ t, (∀ X, F.mem X → PA X es t) ∧ AC F.K t m
def acNil : MAC := fun cs => some ([], cs)
def acCons (m : M) (r : MAC) : MAC := fun cs => match m cs with
  | some (c, c1) => match r c1 with
    | some (l, c2) => some (c :: l, c2)
    | none => none
  | none => none
theorem ac_nil : AC K tNil acNil := fun cs r cs' hm en σ J H s Q q => by
  cases hm
  exact q [] J H rfl s (.refl J)
theorem ac_cons {ta : TA} {r : MAC} (h : E K p te m) (hr : AC K ta r) : AC K (tCons te ta) (acCons m r) := fun cs r cs' hm en σ J H s Q q => by
  unfold acCons at hm
  split at hm
  · next c c1 h1 =>
    split at hm
    · next l c2 h2 =>
      cases hm
      refine h _ _ _ h1 en σ J H s _ fun v J1 H1 s1 x1 _ => ?_
      obtain ⟨en', u1, u2⟩ := s1.under
      refine hr _ _ _ h2 en' σ J1 H1 u1 _ fun vs J2 H2 hl s2 x2 => ?_
      exact q (v :: vs) J2 H2 (by simp [hl]) (u2 _ _ _ _ s2 x2) (x1.trans x2)
    · cases hm
  · cases hm
theorem acx_nil {F : Fm} : AcX F [] acNil := ⟨_, fun _ _ => pa_nil, ac_nil⟩
/-- the values stored at names, from the left -/
def storeC : List Nat → List Cell → List Cell → List Cell
  | i :: is, c :: r, cs => storeC is r (cs.set i c)
  | _, _, cs => cs
def storeV : List Nat → List V → L2.St → L2.St
  | i :: is, v :: vs, σ => storeV is vs (σ.set i (some v))
  | _, _, σ => σ
theorem Sta.store {en : Ent} {J H : Hp} : ∀ (is : List Nat) (r : List Cell) (vs : List V) {cs : List Cell} {σ : L2.St}, is.length = r.length → vs.length = r.length → (∀ i ∈ is, i < cs.length) → Sta K en (r ++ cs) (vs.map some ++ σ) J H → Sta K en (storeC is r cs) (storeV is vs σ) J H
  | [], [], [], _, _, _, _, _, s => s
  | i :: is, c :: r, v :: vs, cs, σ, e1, e2, hi, s => by
    have e1 : is.length = r.length := by simpa using e1
    have e2 : vs.length = r.length := by simpa using e2
    have s1 : Sta K en (r ++ cs.set i c) (vs.map some ++ σ.set i (some v)) J H := by
      have q := Sta.set (i := r.length + i) (cs := r ++ cs) (c := c) (v := v) (σ := vs.map some ++ σ) (by simpa using s) (by have := hi i (by simp); simp; omega)
      rw [List.set_append_right _ _ (by omega), List.set_append_right _ _ (by simp [e2])] at q
      simpa [e2] using q
    exact Sta.store is r vs e1 e2 (fun j hj => by rw [List.length_set]; exact hi j (List.mem_cons_of_mem _ hj)) s1
  | [], _ :: _, _, _, _, e, _, _, _ => by simp at e
  | _ :: _, [], _, _, _, e, _, _, _ => by simp at e
  | [], [], _ :: _, _, _, _, e, _, _ => by simp at e
  | _ :: _, _ :: _, [], _, _, _, e, _, _ => by simp at e
theorem storeV_take {fx : Nat} : ∀ (is : List Nat) (vs : List V) (σ : L2.St), (∀ i ∈ is, fx ≤ i) → (storeV is vs σ).take fx = σ.take fx
  | i :: is, v :: vs, σ, h => by
    show (storeV is vs (σ.set i (some v))).take fx = _
    rw [storeV_take is vs _ fun j hj => h j (List.mem_cons_of_mem _ hj), take_set (h i (by simp))]
  | [], _, _, _ => by unfold storeV; rfl
  | _ :: _, [], _, _ => by unfold storeV; rfl
def mPar (is : List Nat) (r : MAC) : MB := fun cs => match r cs with
  | some (l, c1) => if is.length = l.length ∧ is.all (· < c1.length) = true then some (.nx (storeC is l c1)) else none
  | none => none
theorem b_par2 {i j : Nat} {ta : TA} {r : MAC} (h : AC K ta r) (hf : ∀ i' ∈ [i, j], fx ≤ i') : B K fx (tPar i j ta) (mPar [i, j] r) := fun cs fl hm en σ J H s D q => by
  unfold mPar at hm
  split at hm
  · next l c1 h1 =>
    split at hm
    · next hc =>
      cases hm
      refine h _ _ _ h1 en σ J H s _ fun vs J1 H1 hl s1 x1 => ?_
      have st := s1.store [i, j] l vs hc.1 hl (by simpa using hc.2)
      have tk := storeV_take [i, j] vs σ hf
      match vs, hl, st, tk with
      | [v, w], _, st, tk => exact ⟨v, w, rfl, q _ J1 H1 st x1 tk⟩
      | [], hl, _, _ => rw [← hc.1] at hl; simp at hl
      | [_], hl, _, _ => rw [← hc.1] at hl; simp at hl
      | _ :: _ :: _ :: _, hl, _, _ => rw [← hc.1] at hl; simp at hl
    · cases hm
  · cases hm
theorem b_par3 {i j k : Nat} {ta : TA} {r : MAC} (h : AC K ta r) (hf : ∀ i' ∈ [i, j, k], fx ≤ i') : B K fx (tPar3 i j k ta) (mPar [i, j, k] r) := fun cs fl hm en σ J H s D q => by
  unfold mPar at hm
  split at hm
  · next l c1 h1 =>
    split at hm
    · next hc =>
      cases hm
      refine h _ _ _ h1 en σ J H s _ fun vs J1 H1 hl s1 x1 => ?_
      have st := s1.store [i, j, k] l vs hc.1 hl (by simpa using hc.2)
      have tk := storeV_take [i, j, k] vs σ hf
      match vs, hl, st, tk with
      | [u, v, w], _, st, tk => exact ⟨u, v, w, rfl, q _ J1 H1 st x1 tk⟩
      | [], hl, _, _ => rw [← hc.1] at hl; simp at hl
      | [_], hl, _, _ => rw [← hc.1] at hl; simp at hl
      | [_, _], hl, _, _ => rw [← hc.1] at hl; simp at hl
      | _ :: _ :: _ :: _ :: _, hl, _, _ => rw [← hc.1] at hl; simp at hl
    · cases hm
  · cases hm
def gNames : List Nat → TGs
  | [] => gNil
  | i :: is => gCons (gName i) (gNames is)
theorem gNames_run {Q : L2.St → Hp → Prop} {H : Hp} : ∀ (is : List Nat) (vs : List V) (σ : L2.St), is.length = vs.length → Q (storeV is vs σ) H → gNames is vs σ H Q
  | [], [], σ, _, q => ⟨rfl, q⟩
  | i :: is, v :: vs, σ, h, q => ⟨v, vs, rfl, gNames_run is vs _ (by simpa using h) q⟩
  | [], _ :: _, _, h, _ => by simp at h
  | _ :: _, [], _, h, _ => by simp at h
/-- a tuple is laid and unpacked -/
theorem b_parT {is : List Nat} {ta : TA} {r : MAC} {n : Nat} (hn : n = is.length) (h : AC K ta r) (hf : ∀ i' ∈ is, fx ≤ i') (hz : is.length ≤ 1000) : B K fx (tAsg (tTup ta) (gTup K n (gNames is))) (mPar is r) := fun cs fl hm en σ J H s D q => by
  subst hn
  unfold mPar at hm
  split at hm
  · next l c1 h1 =>
    split at hm
    · next hc =>
      cases hm
      refine h _ _ _ h1 en σ J H s _ fun vs J1 H1 hl s1 x1 => ?_
      have hlen : vs.length = is.length := by rw [hl, ← hc.1]
      refine ⟨by rw [hlen]; exact Nat.le_trans hz (by decide), fun a ha => ?_⟩
      have n1 := Nw.new (o := .tup vs) s1.wf ha
      refine ⟨a, vs, rfl, .inl (.inl upd_same), hlen, gNames_run is vs σ hlen.symm ?_⟩
      exact q _ _ _ ((s1.nw n1).store is l vs hc.1 hl (by simpa using hc.2)) (x1.trans n1.j) (storeV_take is vs σ hf)
    · cases hm
  · cases hm
end
end Mi

/-! Mi11: statements of the text. -/
namespace Mi
open PySem PySem.Spec PyProof.Rows L2

def envS (sc : Scope) : Env := { scope := sc, locals := 0, globals := 0, cells := [] }
theorem swp_env {ts : List Expr} {e : Expr} {env : Env} {sc : Scope} (h : env.scope = sc) : swappedStores ts e env = swappedStores ts e (envS sc) := by
  subst h
  rfl
theorem sw_no {elt : Expr} {gs : List Comprehension} {scope : Scope} {pos py : Pos} {y : Str} {l : Nat} {env : Env} (hy : (env.scope.names.lookup y == some .local) = false) : swapsWith (.ListComp elt gs scope pos) (some (.Name y py)) l env = pure false := by
  have ky : (env.kindOf y == some .local) = false := hy
  unfold swapsWith
  simp only [ky]
  simp
section
variable {F : Fm} {fx : Nat} {p : Bool} {e c tg iter : Expr} {m : M} {b b' : MB} {st : Stmt} {rest A1 A2 : List Stmt} {pos px py pz pt : Pos}
theorem sx_nil : SsX F fx [] mNx := ⟨tNext, fun _ _ => pss_nil, fun cs fl hm en σ J H s D q => by
  cases hm
  exact q σ J H s (.refl J) rfl⟩
theorem sx_cons (h : SX F fx st b) (r : SsX F fx rest b') : SsX F fx (st :: rest) (mSeq b b') := let ⟨t, h1, h2⟩ := h; let ⟨u, r1, r2⟩ := r; ⟨tSeq t u, fun X hX => pss_cons (h1 X hX) (r1 X hX), b_seq h2 r2⟩
theorem sx_one (h : SX F fx st b) : SsX F fx [st] b := let ⟨t, h1, h2⟩ := h; ⟨t, fun X hX => pss_one (h1 X hX), h2⟩
theorem sx_pass : SX F fx (.Pass pos) mNx := ⟨tNext, fun _ _ => ps_pass, fun cs fl hm en σ J H s D q => by
  cases hm
  exact q σ J H s (.refl J) rfl⟩
theorem sx_doc {x : String} {j : Nat} : SX F fx (.Expr (.Constant (.str x) j pos) pt) mNx := ⟨tNext, fun _ _ => ps_doc, fun cs fl hm en σ J H s D q => by
  cases hm
  exact q σ J H s (.refl J) rfl⟩
theorem sx_break : SX F fx (.Break pos) mBk := ⟨tBreak, fun _ _ => ps_break, fun cs fl hm en σ J H s D q => by
  cases hm
  exact q σ J H s (.refl J) rfl⟩
theorem sx_continue : SX F fx (.Continue pos) mCt := ⟨tCont, fun _ _ => ps_continue, fun cs fl hm en σ J H s D q => by
  cases hm
  exact q σ J H s (.refl J) rfl⟩
theorem sx_expr (h : EX F p e m) (hs : ∀ env, swapsWith e none pos.line env = pure false := by intro _; rfl) : SX F fx (.Expr e pos) (mDrop m) := let ⟨t, h1, h2⟩ := h; ⟨tDrop t, fun X hX => ps_expr (h1 X hX) (hs _), b_drop h2⟩
theorem sx_set (i : Nat) {x : Str} (hi : F.N[i]? = some x) (hx : Loc F.sc x) (hf : F.fn x = true ∨ F.sc.names.lookup x = some .local) (hl : fx ≤ i) (h : EX F p e m) (hs : ∀ env, swapsWith e (some (.Name x px)) pos.line env = pure false := by intro _; rfl) : SX F fx (.Assign [.Name x px] e pos) (mSet i m) :=
  let ⟨t, h1, h2⟩ := h
  ⟨tAsg t (gName i), fun X hX => ps_set (by rw [F.hN X hX]; exact F.nd) (by rw [F.hN X hX]; exact hi) (by rw [F.hsc X hX]; exact hx) (h1 X hX) (hs _) (by rw [F.hsc X hX, F.hfn X hX]; exact hf), b_set hl h2⟩
/-- a captured name = [.. for ..] -/
theorem sx_setC (i : Nat) {x : Str} {elt : Expr} {gs : List Comprehension} {scope : Scope} {lp : Pos} (hi : F.N[i]? = some x) (hx : Loc F.sc x) (hf : F.fn x = true ∨ F.sc.names.lookup x = some .local) (hl : fx ≤ i) (hc : (F.sc.names.lookup x == some .local) = false) (h : EX F p (.ListComp elt gs scope lp) m) : SX F fx (.Assign [.Name x px] (.ListComp elt gs scope lp) pos) (mSet i m) :=
  let ⟨t, h1, h2⟩ := h
  ⟨tAsg t (gName i), fun X hX => ps_set (by rw [F.hN X hX]; exact F.nd) (by rw [F.hN X hX]; exact hi) (by rw [F.hsc X hX]; exact hx) (h1 X hX) (sw_no (by rw [F.hsc X hX]; exact hc)) (by rw [F.hsc X hX, F.hfn X hX]; exact hf), b_set hl h2⟩
section
variable {elt : Expr} {ifs : List Expr} {scope : Scope} {own : List (Str × Nat)} {lp : Pos} {mi : MI} {mg : MG} {mt : MT} {me : M}
theorem lcs_both (i : Nat) {y : Str} (hy : F.N[i]? = some y) (hyl : F.sc.names.lookup y = some .local) (hk : F.sc.kind = .function) (hli : (py.line == lp.line) = true) (hno : (scope.names.any fun (n, k) => n == y && (k == .local || k == .cell)) = false)
    (hi : IX F p tg iter mi) (ok : blkC F.N F.sc scope own = true) (hg : GX (F.blk scope) (own.map (·.2)) tg mg) (ht : TsX (F.blk scope) p ifs mt) (he : EX (F.blk scope) p elt me) (hs : ∀ env x, foldedSetIterable iter env x = pure x) :
    ∃ te, (∀ X, F.mem X → PS X (.Assign [.Name y py] (.ListComp elt [⟨tg, iter, ifs, 0⟩] scope lp) pos) (tAsg te (gName i))) ∧ EO F.K p te (mLcO (own.map (·.2)) mi mg mt me) := by
  obtain ⟨wi, i1, i2⟩ := hi
  obtain ⟨g, g1, g2⟩ := hg
  obtain ⟨tt, t1, t2⟩ := ht
  obtain ⟨te, e1, e2⟩ := he
  refine ⟨tLc wi g tt te (own.map (·.2)), fun X hX => ?_, lc_run i2 g2 t2 e2⟩
  have mem : ∀ (s : Shared) (H : Hp) (C : Addr) (cl : List (Str × Addr)) (fp : List Addr), (F.blk scope).mem (X.blk s H scope (compEnvC scope cl C X.env) fp) := fun s H C cl fp => ⟨X, s, H, C, cl, fp, hX, rfl⟩
  exact ps_setLc (F.calm X hX) (by rw [F.hN X hX]; exact F.nd) (by rw [F.hN X hX]; exact hy) (by rw [F.hsc X hX]; exact hyl) (sw_true (by rw [F.hsc X hX]; exact hk) (by rw [F.hsc X hX]; exact hyl) hli hno) (i1 X hX) (blkOk_by (by rw [F.hN X hX, F.hsc X hX]; exact ok)) (fun s H C cl fp => g1 _ (mem s H C cl fp)) (fun s H C cl fp => t1 _ (mem s H C cl fp)) (fun s H C cl fp => e1 _ (mem s H C cl fp)) (hs _)
theorem sx_lcO (i : Nat) {y : Str} (hy : F.N[i]? = some y) (hyl : F.sc.names.lookup y = some .local) (hk : F.sc.kind = .function) (hli : (py.line == lp.line) = true) (hno : (scope.names.any fun (n, k) => n == y && (k == .local || k == .cell)) = false) (hl : fx ≤ i)
    (hi : IX F p tg iter mi) (ok : blkC F.N F.sc scope own = true) (hg : GX (F.blk scope) (own.map (·.2)) tg mg) (ht : TsX (F.blk scope) p ifs mt) (he : EX (F.blk scope) p elt me) (hs : ∀ env x, foldedSetIterable iter env x = pure x) :
    SX F fx (.Assign [.Name y py] (.ListComp elt [⟨tg, iter, ifs, 0⟩] scope lp) pos) (mSet i (mLcO (own.map (·.2)) mi mg mt me)) := let ⟨te, h1, h2⟩ := lcs_both i hy hyl hk hli hno hi ok hg ht he hs; ⟨_, h1, b_set hl h2.e⟩
theorem sx_lc (i : Nat) {y : Str} (hy : F.N[i]? = some y) (hyl : F.sc.names.lookup y = some .local) (hk : F.sc.kind = .function) (hli : (py.line == lp.line) = true) (hno : (scope.names.any fun (n, k) => n == y && (k == .local || k == .cell)) = false) (hl : fx ≤ i)
    (hi : IX F p tg iter mi) (ok : blkC F.N F.sc scope own = true) (hg : GX (F.blk scope) (own.map (·.2)) tg mg) (ht : TsX (F.blk scope) p ifs mt) (he : EX (F.blk scope) p elt me) (hs : ∀ env x, foldedSetIterable iter env x = pure x) :
    SX F fx (.Assign [.Name y py] (.ListComp elt [⟨tg, iter, ifs, 0⟩] scope lp) pos) (mSet i (mFrzP (mLcO (own.map (·.2)) mi mg mt me))) := let ⟨te, h1, h2⟩ := lcs_both i hy hyl hk hli hno hi ok hg ht he hs; ⟨_, h1, b_set hl h2.frz⟩
end
/-- (a, b, ..) = a value -/
theorem sx_asg {vs : List Nat} {mg : MG} (hv : ∀ v ∈ vs, fx ≤ v) (hg : GX F vs tg mg) (h : EX F p e m) (hs : ∀ env, swapsWithSole [tg] e pos.line env = pure false := by intro _; rfl) (hw : ∀ env, swappedStores [tg] e env = pure none := by intro _; rfl)
    (h1 : ∀ env, (assignEach [tg] env).map (·.2) = [assign tg env] := by intro _; rfl) : SX F fx (.Assign [tg] e pos) (mAsg m mg) :=
  let ⟨t, e1, e2⟩ := h
  let ⟨g, g1, g2⟩ := hg
  ⟨tAsg t g, fun X hX => ps_asg (e1 X hX) (g1 X hX) (hs _) (hw _) (h1 _), b_asg hv e2 g2⟩
theorem acx_cons {es : List Expr} {r : MAC} (h : EX F p e m) (hr : AcX F es r) (hs : ∀ env, starEach (e :: es) env = (false, eval e env) :: starEach es env := by intro _; rfl) : AcX F (e :: es) (acCons m r) :=
  let ⟨te, h1, h2⟩ := h
  let ⟨ta, r1, r2⟩ := hr
  ⟨tCons te ta, fun X hX => pa_cons (h1 X hX) (r1 X hX) (hs _), ac_cons h2 r2⟩
theorem sx_par2 (i j : Nat) {x y : Str} {a b : Expr} {r : MAC} {kt k2 : Nat} {pt2 : Pos} (hi : F.N[i]? = some x) (hj : F.N[j]? = some y) (hij : i ≠ j) (hx : F.sc.names.lookup x = some .local) (hy : F.sc.names.lookup y = some .local) (hf : ∀ i' ∈ [i, j], fx ≤ i') (h : AcX F [a, b] r)
    (hw : swappedStores [.Tuple [.Name x px, .Name y py] kt pt] (.Tuple [a, b] k2 pt2) (envS F.sc) = pure (some [x, y])) (hs : ∀ env, swapsWithSole [.Tuple [.Name x px, .Name y py] kt pt] (.Tuple [a, b] k2 pt2) pos.line env = pure false := by intro _; rfl) :
    SX F fx (.Assign [.Tuple [.Name x px, .Name y py] kt pt] (.Tuple [a, b] k2 pt2) pos) (mPar [i, j] r) :=
  let ⟨ta, a1, a2⟩ := h
  ⟨tPar i j ta, fun X hX => ps_par (F.calm X hX) (by rw [F.hN X hX]; exact F.nd) (by rw [F.hN X hX]; exact hi) (by rw [F.hN X hX]; exact hj) hij (by rw [F.hsc X hX]; exact hx) (by rw [F.hsc X hX]; exact hy) (a1 X hX) (by rw [swp_env (F.hsc X hX)]; exact hw) (hs _), b_par2 a2 hf⟩
theorem sx_par3 (i j k : Nat) {x y z : Str} {a b c : Expr} {r : MAC} {kt k2 : Nat} {pt2 : Pos} (hi : F.N[i]? = some x) (hj : F.N[j]? = some y) (hk : F.N[k]? = some z) (hij : i ≠ j) (hik : i ≠ k) (hjk : j ≠ k) (hx : F.sc.names.lookup x = some .local) (hy : F.sc.names.lookup y = some .local) (hz : F.sc.names.lookup z = some .local) (hf : ∀ i' ∈ [i, j, k], fx ≤ i') (h : AcX F [a, b, c] r)
    (hw : swappedStores [.Tuple [.Name x px, .Name y py, .Name z pz] kt pt] (.Tuple [a, b, c] k2 pt2) (envS F.sc) = pure (some [x, y, z])) (hs : ∀ env, swapsWithSole [.Tuple [.Name x px, .Name y py, .Name z pz] kt pt] (.Tuple [a, b, c] k2 pt2) pos.line env = pure false := by intro _; rfl) :
    SX F fx (.Assign [.Tuple [.Name x px, .Name y py, .Name z pz] kt pt] (.Tuple [a, b, c] k2 pt2) pos) (mPar [i, j, k] r) :=
  let ⟨ta, a1, a2⟩ := h
  ⟨tPar3 i j k ta, fun X hX => ps_par3 (F.calm X hX) (by rw [F.hN X hX]; exact F.nd) (by rw [F.hN X hX]; exact hi) (by rw [F.hN X hX]; exact hj) (by rw [F.hN X hX]; exact hk) hij hik hjk (by rw [F.hsc X hX]; exact hx) (by rw [F.hsc X hX]; exact hy) (by rw [F.hsc X hX]; exact hz) (a1 X hX) (by rw [swp_env (F.hsc X hX)]; exact hw) (hs _), b_par3 a2 hf⟩
/-- the targets of an unpacked tuple: names -/
inductive Nms (F : Fm) : List Nat → List Expr → Prop
  | nil : Nms F [] []
  | cons {i : Nat} {x : Str} {is : List Nat} {es : List Expr} {q : Pos} : F.N[i]? = some x → Loc F.sc x → (F.fn x = true ∨ F.sc.names.lookup x = some .local) → Nms F is es → (∀ env, (assignEach (.Name x q :: es) env).map (·.2) = assign (.Name x q) env :: (assignEach es env).map (·.2)) → Nms F (i :: is) (.Name x q :: es)
theorem Nms.pg : ∀ {is : List Nat} {es : List Expr}, Nms F is es → ∀ X, F.mem X → PGs X es (gNames is)
  | _, _, .nil, X, hX => pgs_nil
  | _, _, .cons h1 h2 h3 r h4, X, hX => pgs_cons (pg_name (by rw [F.hN X hX]; exact F.nd) (by rw [F.hN X hX]; exact h1) (by rw [F.hsc X hX]; exact h2) (by rw [F.hsc X hX, F.hfn X hX]; exact h3)) (Nms.pg r X hX) (h4 _)
theorem sx_parT (is : List Nat) {es vs : List Expr} {r : MAC} {kt k2 n : Nat} {pt2 : Pos} (hN : Nms F is es) (hn : n = is.length) (hf : ∀ i' ∈ is, fx ≤ i') (hz : is.length ≤ 1000) (h : AcX F vs r)
    (hw : swappedStores [.Tuple es kt pt] (.Tuple vs k2 pt2) (envS F.sc) = pure none) (hs : ∀ env, swapsWithSole [.Tuple es kt pt] (.Tuple vs k2 pt2) pos.line env = pure false := by intro _; rfl)
    (hl : ∀ env, (assignEach es env).length = n := by intro _; rfl) (hst : ∀ env, (assignEach es env).findIdx? (·.1) = none := by intro _; rfl) (h1 : ∀ env, (assignEach [.Tuple es kt pt] env).map (·.2) = [assign (.Tuple es kt pt) env] := by intro _; rfl) :
    SX F fx (.Assign [.Tuple es kt pt] (.Tuple vs k2 pt2) pos) (mPar is r) :=
  let ⟨ta, a1, a2⟩ := h
  ⟨tAsg (tTup ta) (gTup F.K n (gNames is)), fun X hX => by
    rw [← F.hK X hX]
    exact ps_asg (pe_tup (a1 X hX)) (pg_tup (F.calm X hX) (hN.pg X hX) (hl _) (hst _)) (hs _) (by rw [swp_env (F.hsc X hX)]; exact hw) (h1 _), b_parT hn a2 hf hz⟩
theorem sx_ret (h : EX F p e m) : SX F fx (.Return (some e) pos) (mRet m) := let ⟨t, h1, h2⟩ := h; ⟨tRet t, fun X hX => ps_ret (h1 X hX), b_ret h2⟩
def mRetN : MB := fun cs => some (.rt (.fz .none) cs)
theorem sx_retN : SX F fx (.Return none pos) mRetN := ⟨tRetN, fun X hX => ps_retN, fun cs fl hm en σ J H s D q => by
  cases hm
  exact q .non σ J H (s.pushFz .non) (.refl J) rfl⟩
theorem sx_if {mc : MT} (hc : TX F p c mc) (h1 : SsX F fx A1 b) (h2 : SsX F fx A2 b') : SX F fx (.If c A1 A2 pos) (mIfS mc b b') :=
  let ⟨tc, c1, c2⟩ := hc
  let ⟨t, t1, t2⟩ := h1
  let ⟨u, u1, u2⟩ := h2
  ⟨tIfS tc t u, fun X hX => ps_if (c1 X hX) (t1 X hX) (u1 X hX), b_if c2 t2 u2⟩
theorem sx_for {vs : List Nat} {mi : MI} {mg : MG} (hv : ∀ v ∈ vs, fx ≤ v) (hi : IX F p tg iter mi) (hg : GX F vs tg mg) (hb : SsX F fx A1 b) (hs : ∀ env x, foldedSetIterable iter env x = pure x := by intro _ _; rfl) : SX F fx (.For tg iter A1 [] pos) (mFor mi mg b) :=
  let ⟨wi, i1, i2⟩ := hi
  let ⟨g, g1, g2⟩ := hg
  let ⟨t, t1, t2⟩ := hb
  ⟨tFor wi g t, fun X hX => ps_for (by rw [F.xe X hX]; exact PassesOwn.never) (F.calm X hX) (i1 X hX) (g1 X hX) (t1 X hX) (hs _), b_for hv i2 g2 t2⟩
theorem sx_while (n : Nat) {mc : MT} (hc : TX F p c mc) (hb : SsX F fx A1 b) : SX F fx (.While c A1 [] pos) (whileGo mc b n) :=
  let ⟨tc, c1, c2⟩ := hc
  let ⟨t, t1, t2⟩ := hb
  ⟨tWhile tc t, fun X hX => ps_while (by rw [F.xe X hX]; exact PassesOwn.never) (c1 X hX) (t1 X hX), b_while n c2 t2⟩
end
end Mi

/-! Mi12: defs of the text and their calls, with the guards told. -/
namespace Mi
open PySem PySem.Spec PyProof.Rows L2

/-- what a def wants of its end -/
abbrev Sq := List V → Hp → VK → Prop
structure Pr (P : Program) (w : World) (K : PySem.W.Frag) (mg : Str → Option Value) (base : Heap) (k : Nat) (f : Addr) (fd : FuncData) (ps : List Str) (sp : Sq) : Prop where
  len : ∀ vs H Q, sp vs H Q → vs.length = ps.length
  run : ∀ (A : Around) (around : List Env) (s : Shared) (H : Hp) (us : List Value) (vs : List V) (Q : VK), Room k A → A.guards = some [] → Env0 P w K mg base A around s H →
    BindsTo s fd ⟨us, []⟩ (ps.zip us) → Vals vs us → sp vs H Q → codeAny (model P w) A (.call (.ref f) ⟨us, []⟩) (fun r s' => ∃ u, r = .ok (.ret u) ∧ CE around P w H s Q u s') s
theorem Pr.up {P : Program} {w : World} {K : PySem.W.Frag} {mg : Str → Option Value} {base : Heap} {j k : Nat} {f : Addr} {fd : FuncData} {ps : List Str} {sp : Sq} (p : Pr P w K mg base j f fd ps sp) (h : j ≤ k) : Pr P w K mg base k f fd ps sp :=
  ⟨p.len, fun A around s H us vs Q r => p.run A around s H us vs Q (r.mono h)⟩
theorem deep_guards (A : Around) (e : Env) : (A.deeper e).guards = A.guards := by
  first | rfl | (unfold Around.deeper; rfl) | simp [Around.deeper]

/-- the family of the contexts of a def's body -/
def Fm.ofDef (P : Program) (w : World) (K : PySem.W.Frag) (mg : Str → Option Value) (base : Heap) (N : List Str) (sc : Scope) (k : Nat) (nd : N.Nodup) : Fm where
  P := P
  w := w
  K := K
  mg := mg
  base := base
  N := N
  sc := sc
  fn := fun _ => true
  k := k
  mem := fun X => ∃ (qual : Str) (f : Addr) (cd : Value) (A : Around) (around : List Env) (s : Shared) (H : Hp) (E : XK), X = (cxOf CX0 P w K mg base N qual sc f cd A around s H E).nox ∧ Room k X.A ∧ X.A.guards = some []
  hP := fun X ⟨_, _, _, _, _, _, _, _, e, _⟩ => by rw [e]; rfl
  hw := fun X ⟨_, _, _, _, _, _, _, _, e, _⟩ => by rw [e]; rfl
  hK := fun X ⟨_, _, _, _, _, _, _, _, e, _⟩ => by rw [e]; rfl
  hmg := fun X ⟨_, _, _, _, _, _, _, _, e, _⟩ => by rw [e]; rfl
  hbase := fun X ⟨_, _, _, _, _, _, _, _, e, _⟩ => by rw [e]; rfl
  hN := fun X ⟨_, _, _, _, _, _, _, _, e, _⟩ => by rw [e]; rfl
  hsc := fun X ⟨_, _, _, _, _, _, _, _, e, _⟩ => by rw [e]; rfl
  hfn := fun X ⟨_, _, _, _, _, _, _, _, e, _⟩ => by rw [e]; rfl
  calm := fun X ⟨_, _, _, _, _, _, _, _, e, _⟩ => by rw [e]; rfl
  room := fun X ⟨_, _, _, _, _, _, _, _, _, r, _⟩ => r
  gd := fun X ⟨_, _, _, _, _, _, _, _, _, _, g⟩ => g
  xe := fun X ⟨_, _, _, _, _, _, _, _, e, _⟩ => by rw [e]
  nd := nd

section
variable {P : Program} {w : World} {K : PySem.W.Frag} {mg : Str → Option Value} {base : Heap} {k : Nat} {f : Addr} {fd : FuncData} {ps N : List Str} {sp : Sq} {x qual : Str} {st : Stmt}
/-- a def by its body's reading -/
theorem pr_of' (D : Fun K x qual st f fd) (S : FnScope N ps (defScope st)) {t : TS} (t1 : ∀ X, (Fm.ofDef P w K mg base N (defScope st) k S.nd).mem X → PSs X (defBody st) t) (len : ∀ vs H Q, sp vs H Q → vs.length = ps.length)
    (h : ∀ vs H Q, sp vs H Q → t { nx := fun _ H' => Q .non H', rt := Q } (start N vs) H) : Pr P w K mg base (k + 1) f fd ps sp := by
  refine ⟨len, fun A around s H us vs Q room gd e0 bind rel want => ?_⟩
  obtain ⟨oc, od, kV, doc, pm, an, cdv, ct, osl, rfl, look, code⟩ := D.ex
  have hl := len _ _ _ want
  have up : ∀ b o, base.get? b = some o → s.heap.get? b = some o := fun b o e => (e0.bs b o e).1
  have KX : K.In s.heap := e0.mod.kin.keeps up
  have kinds : ∀ y ∈ ps.zip us, (defScope st).names.lookup y.1 = some .local ∨ ((defScope st).names.lookup y.1 = some .cell ∧ ((cellsFrom (s.heap.objs.size + 1) (defScope st).names []).lookup y.1).isSome = true) := by
    rintro ⟨n, v⟩ hy
    have hn : n ∈ ps := (List.of_mem_zip hy).1
    exact (S.par n hn).imp id fun q => ⟨q, PySem.W.cellsFrom_some _ _ _ (.inl q)⟩
  have body : ∀ s1, InCallC s s.heap.objs.size (bindL (envOfC qual (defScope st) s.heap.objs.size f cdv).kindOf (ps.zip us) fun _ => none) (cellsFrom (s.heap.objs.size + 1) (defScope st).names []) (bindC (envOfC qual (defScope st) s.heap.objs.size f cdv).kindOf (ps.zip us) fun _ => none) s1 →
      wpAny (model P w) (A.deeper (envOfC qual (defScope st) s.heap.objs.size f cdv)) (execs (defBody st) (envOfC qual (defScope st) s.heap.objs.size f cdv))
        (SP (cxOf CX0 P w K mg base N qual (defScope st) f cdv A around s H fun _ _ _ => False) [] { nx := fun _ H' => Q .non H', rt := Q })
        (cxOf CX0 P w K mg base N qual (defScope st) f cdv A around s H fun _ _ _ => False).xe s1 := fun s1 x => by
    have I := inv_start (CX := CX0) (P := P) (w := w) (mg := mg) (qual := qual) (E := fun _ _ _ => False) S room.hd e0 hl rel x
    have mem : (Fm.ofDef P w K mg base N (defScope st) k S.nd).mem (cxOf CX0 P w K mg base N qual (defScope st) f cdv A around s H fun _ _ _ => False).nox :=
      ⟨qual, f, cdv, A, around, s, H, _, rfl, room.deeper _, by
        show (A.deeper _).guards = _
        rw [deep_guards]; exact gd⟩
    exact (t1 _ mem).nox.run [] s1 (start N vs) H _ I (h vs H Q want)
  refine codeAny_call_function room.depth (KX _ _ look) rfl S.co S.gen rfl (PySem.W.codeRec_of KX code) (bind _ _ _ _ ?_)
  refine wpAny_newFunctionEnv_cells S.kind kinds fun env he s1 x => ?_
  subst he
  refine ⟨(e0.mod.nolimit.keeps up).keeps x.toInCall.keep, codeAny_func (wpAny_mono (body s1 x) (fun fl s' hs => ?_) fun e s' hs => ?_)⟩
  · match fl, hs with
    | .ret u, ⟨v, _, H', I', rv, q⟩ => exact ⟨u, rfl, v, H', I'.os, I'.bare, I'.base, I'.hok, rv, q⟩
    | .next, ⟨_, H', I', q⟩ => exact ⟨Value.none, rfl, .non, H', I'.os, I'.bare, I'.base, I'.hok, rfl, q⟩
    | .brk, ⟨_, _, _, q⟩ => exact q.elim
    | .cont, ⟨_, _, _, q⟩ => exact q.elim
  · refine wpAny_mono hs (fun _ _ z => ?_) fun _ _ z => ?_
    · exact False.elim z
    · exact False.elim z
/-- a def by its body's mirror -/
theorem pr_of (D : Fun K x qual st f fd) (S : FnScope N ps (defScope st)) {fx : Nat} {b : MB} (hb : SsX (Fm.ofDef P w K mg base N (defScope st) k S.nd) fx (defBody st) b) (len : ∀ vs H Q, sp vs H Q → vs.length = ps.length)
    (h : ∀ t, B K fx t b → ∀ vs H Q, sp vs H Q → t { nx := fun _ H' => Q .non H', rt := Q } (start N vs) H) : Pr P w K mg base (k + 1) f fd ps sp :=
  let ⟨t, t1, t2⟩ := hb
  pr_of' D S t1 len (h t t2)
end

/-! ### calls in a body -/
def tGo (sp : Sq) (t : TA) : TE := fun σ H Q => t σ H fun vs H1 => sp vs H1 Q
section
variable {X : Cx} {k : Nat} {f : Addr} {fd : FuncData} {ps : List Str} {sp : Sq} {x : Str} {p pos : Pos} {e : Expr} {es : List Expr} {t : TA}
theorem pr_run {pins : List (Addr × Obj)} {σ : L2.St} {H : Hp} {s : Shared} {Q : VK} {us : List Value} {vs : List V} (R : Pr X.prog X.w X.K X.mg X.base k f fd ps sp) (room : Room k X.A) (gd : X.A.guards = some []) (bi : Binds X.K fd ps [])
    (I : Inv X pins σ H s) (r : Vals vs us) (want : sp vs H Q) : wpAny (model X.prog X.w) X.A (call (.ref f) us) (EP X pins σ Q) X.xe s := by
  have hl : (us ++ []).length = ps.length := by rw [List.append_nil, ← r.length, R.len _ _ _ want]
  have bd := bi s us I.kIn hl
  rw [List.append_nil] at bd
  refine wpAny_call (codeAny_mono (R.run X.A X.stack s H us vs Q room gd I.env0 bd r want) fun res s' ⟨u, e, c⟩ => ?_)
  subst e
  exact I.after c
theorem pe_go (R : Pr X.prog X.w X.K X.mg X.base k f fd ps sp) (room : Room k X.A) (gd : X.A.guards = some []) (hg : Gl X x) (hm : X.mg x = some (.ref f)) (hk : PySem.W.keepIn X.K (.ref f) = true) (bi : Binds X.K fd ps [])
    (ha : PA X (e :: es) t) (hdb : (x == ("__debug__" : Str)) = false) (he : starEach (e :: es) X.env = (false, eval e X.env) :: starEach es X.env) (hpl : (backTo pos (starEach es X.env)).any (·.1) = false) :
    PE X (.Call (.Name x p) (e :: es) [] pos) (tGo sp t) := ⟨fun pins s σ H Q I want => by
  refine wpAny_Call_Name_kw (ld_glob I hg hm (PySem.W.callWith_K (h₀ := X.base) I.ok.mod.kin hk ?_ he hpl) hdb)
  exact thn (ha.run pos pins s σ H _ I want) fun us s1 ⟨vs, H1, I1, r, q⟩ => ⟨I1.kIn, pr_run R room gd bi I1 r q⟩⟩
theorem pe_go0 (R : Pr X.prog X.w X.K X.mg X.base k f fd ps sp) (room : Room k X.A) (gd : X.A.guards = some []) (hg : Gl X x) (hm : X.mg x = some (.ref f)) (hk : PySem.W.keepIn X.K (.ref f) = true) (bi : Binds X.K fd ps [])
    (hdb : (x == ("__debug__" : Str)) = false) : PE X (.Call (.Name x p) [] [] pos) (tGo sp tNil) := ⟨fun pins s σ H Q I want => by
  refine wpAny_Call_Name_kw (ld_glob I hg hm (PySem.W.callWith_K0 I.kIn hk ?_) hdb)
  exact pr_run (us := []) R room gd bi I .nil want⟩
end
end Mi

/-! Mi13: what defs promise over data; their calls. -/
namespace Mi
open PySem PySem.Spec PyProof.Rows L2

section
variable {K : PySem.W.Frag} {J J' H H' : Hp} {en : Ent} {cs cs' r : List Cell} {σ τ : L2.St} {c : Cell} {o : Option V} {v : V} {d : D}
theorem All3.uniq {R : V → D → List Addr → Prop} (f : ∀ v d F d' F', R v d F → R v d' F' → F = F') : ∀ {vs : List V} {ds ds' : List D} {G G' : List Addr}, All3 R vs ds G → All3 R vs ds' G' → G = G'
  | _, _, _, _, _, .nil, .nil => rfl
  | _, _, _, _, _, .cons h r, .cons h' r' => by rw [f _ _ _ _ _ h h', All3.uniq f r r']
theorem All3K.uniq {R : V → D → List Addr → Prop} (f : ∀ v d F d' F', R v d F → R v d' F' → F = F') : ∀ {vs : List (Key × V)} {ds ds' : List (D × D)} {G G' : List Addr}, All3K R vs ds G → All3K R vs ds' G' → G = G'
  | _, _, _, _, _, .nil, .nil => rfl
  | _, _, _, _, _, .cons h r, .cons h' r' => by rw [f _ _ _ _ _ h h', All3K.uniq f r r']
theorem All3T.uniq {R : V → D → List Addr → Prop} (f : ∀ v d F d' F', R v d F → R v d' F' → F = F') : ∀ {vs : List (List Key × V)} {ds ds' : List (D × D)} {G G' : List Addr}, All3T R vs ds G → All3T R vs ds' G' → G = G'
  | _, _, _, _, _, .nil, .nil => rfl
  | _, _, _, _, _, .cons h r, .cons h' r' => by rw [f _ _ _ _ _ h h', All3T.uniq f r r']
theorem Ow.uniq : ∀ {s : Sh} {v : V} {d d' : D} {F F' : List Addr}, Ow K J H s v d F → Ow K J H s v d' F' → F = F'
  | .fz, _, _, _, _, _, h, h' => h.2.trans h'.2.symm
  | .l s, _, _, _, _, _, ⟨a, xs, ds, G, h1, h2, h3, h4, h5, h6⟩, ⟨a', xs', ds', G', g1, g2, g3, g4, g5, g6⟩ => by
    rw [h1] at g1; cases g1
    rw [h3] at g3; cases g3
    have q := All3.uniq (R := Ow K J H s) (fun v d F d' F' a b => Ow.uniq a b) h5 g5
    rw [h6, g6, q]
  | .dk s, _, _, _, _, _, ⟨a, xs, ds, G, h1, h2, h3, h4, h5, h6⟩, ⟨a', xs', ds', G', g1, g2, g3, g4, g5, g6⟩ => by
    rw [h1] at g1; cases g1
    rw [h3] at g3; cases g3
    have q := All3K.uniq (R := Ow K J H s) (fun v d F d' F' a b => Ow.uniq a b) h5 g5
    rw [h6, g6, q]
  | .dt s, _, _, _, _, _, ⟨a, xs, ds, G, h1, h2, h3, h4, h5, h6⟩, ⟨a', xs', ds', G', g1, g2, g3, g4, g5, g6⟩ => by
    rw [h1] at g1; cases g1
    rw [h3] at g3; cases g3
    have q := All3T.uniq (R := Ow K J H s) (fun v d F d' F' a b => Ow.uniq a b) h5 g5
    rw [h6, g6, q]
  | .pen, _, _, _, _, _, ⟨a, c, ns, i, n, h1, h2, h3, h4, h5, h6, h7⟩, ⟨a', c', ns', i', n', g1, g2, g3, g4, g5, g6, g7⟩ => by
    rw [h1] at g1; cases g1
    rw [h3] at g3; cases g3
    rw [h7, g7]
theorem St.cut : ∀ {r : List Cell} {τ : L2.St} {G : List Addr}, τ.length = r.length → St K J H (r ++ cs) (τ ++ σ) G → ∃ G1 G2, G = G1 ++ G2 ∧ St K J H r τ G1 ∧ St K J H cs σ G2
  | [], [], G, _, h => ⟨[], G, rfl, .nil, h⟩
  | .un :: r, o :: τ, _, e, .un h => let ⟨G1, G2, e1, h1, h2⟩ := St.cut (by simpa using e) h; ⟨G1, G2, e1, .un h1, h2⟩
  | .fz d :: r, some v :: τ, _, e, .fz q h => let ⟨G1, G2, e1, h1, h2⟩ := St.cut (by simpa using e) h; ⟨G1, G2, e1, .fz q h1, h2⟩
  | .ow s d :: r, some v :: τ, _, e, .ow (F := F) q h => let ⟨G1, G2, e1, h1, h2⟩ := St.cut (by simpa using e) h; ⟨F ++ G1, G2, by rw [e1, List.append_assoc], .ow q h1, h2⟩
  | [], _ :: _, _, e, _ => by simp at e
  | _ :: _, [], _, e, _ => by simp at e
theorem St.app : ∀ {r : List Cell} {τ : L2.St} {G1 G2 : List Addr}, St K J H r τ G1 → St K J H cs σ G2 → St K J H (r ++ cs) (τ ++ σ) (G1 ++ G2)
  | _, _, _, _, .nil, h => h
  | _, _, _, _, .un q, h => .un (q.app h)
  | _, _, _, _, .fz z q, h => .fz z (q.app h)
  | _, _, _, _, .ow z q, h => by
    rw [List.append_assoc]
    exact .ow z (q.app h)
/-- the cells on top alone; what runs on them leaves those below as they are -/
theorem Sta.split (s : Sta K en (r ++ cs) (τ ++ σ) J H) (hl : τ.length = r.length) : ∃ Fr, Sta K ⟨J, H, Fr⟩ r τ J H ∧ (r = [] → Fr = []) ∧ ∀ r' τ' J' H', Sta K ⟨J, H, Fr⟩ r' τ' J' H' → Ex J J' → Sta K en (r' ++ cs) (τ' ++ σ) J' H' := by
  obtain ⟨w, f, th, vw, G, h1, h2, h3⟩ := s
  obtain ⟨G1, G2, rfl, c1, c2⟩ := h1.cut hl
  obtain ⟨n1, n2, n3⟩ := List.nodup_append.mp h2
  refine ⟨G1, ⟨w, fun a u e _ => e, fun a e => e, fun a _ _ e => e, G1, c1, n1, fun a ha => .inl ha⟩, fun e => ?_, fun r' τ' J' H' s' x => ?_⟩
  · subst e
    cases c1
    rfl
  · obtain ⟨w', f', th', vw', G', g1, g2, g3⟩ := s'
    have f' : ∀ a u, H a = some u → a ∉ G1 → H' a = some u := f'
    have th' : ∀ a, H' a = none → H a = none := th'
    have vw' : ∀ a, H a ≠ none → a ∉ G1 → J a = none → J' a = none := vw'
    have g3 : ∀ a ∈ G', a ∈ G1 ∨ H a = none := g3
    have out : ∀ a ∈ G2, a ∉ G1 := fun a ha hb => n3 a hb a ha rfl
    have k1 : ∀ a ∈ G2, H' a = H a := fun a ha => by
      obtain ⟨_, u, e, _⟩ := c2.at a ha
      rw [e, f' a u e (out a ha)]
    have k2 : ∀ a ∈ G2, J' a = none := fun a ha => by
      obtain ⟨e1, u, e, _⟩ := c2.at a ha
      exact vw' a (by rw [e]; exact fun z => nomatch z) (out a ha) e1
    have own : ∀ a ∈ G1, a ∈ en.F ∨ en.H a = none := fun a ha => h3 a (List.mem_append_left _ ha)
    refine ⟨w', fun a u e hn => f' a u (f a u e hn) fun z => (own a z).elim hn fun z => (by rw [e] at z; cases z), fun a e => th a (th' a e), fun a e hn hj => vw' a (fun z => e (th a z)) (fun z => (own a z).elim hn e) (vw a e hn hj), G' ++ G2, g1.app (c2.mono x k1 k2), List.nodup_append.mpr ⟨g2, n2, fun a ha b hb e => ?_⟩, fun a ha => ?_⟩
    · subst e
      rcases g3 a ha with z | z
      · exact out a hb z
      · obtain ⟨_, u, e, _⟩ := c2.at a hb
        rw [e] at z; cases z
    · rcases List.mem_append.mp ha with ha | ha
      · rcases g3 a ha with z | z
        · exact own a z
        · exact .inr (th a z)
      · exact h3 a (List.mem_append_right _ ha)
theorem Sta.left (s : Sta K en (r ++ cs) (τ ++ σ) J H) (hl : τ.length = r.length) : Sta K en r τ J H := by
  obtain ⟨w, f, th, vw, G, h1, h2, h3⟩ := s
  obtain ⟨G1, G2, rfl, c1, c2⟩ := h1.cut hl
  exact ⟨w, f, th, vw, G1, c1, (List.nodup_append.mp h2).1, fun a ha => h3 a (List.mem_append_left _ ha)⟩
theorem St.uns : ∀ n : Nat, St K J H (List.replicate n .un) (List.replicate n none) []
  | 0 => .nil
  | n + 1 => .un (St.uns n)
theorem Sta.pad (s : Sta K en cs σ J H) (n : Nat) : Sta K en (cs ++ List.replicate n .un) (σ ++ List.replicate n none) J H := by
  obtain ⟨w, f, th, vw, G, h1, h2, h3⟩ := s
  exact ⟨w, f, th, vw, G, by simpa using h1.app (St.uns n), h2, h3⟩
theorem Sta.swap {c' : Cell} {o' : Option V} (s : Sta K en (c :: c' :: cs) (o :: o' :: σ) J H) : Sta K en (c' :: c :: cs) (o' :: o :: σ) J H := by
  obtain ⟨w, f, th, vw, G, h1, h2, h3⟩ := s
  obtain ⟨G1, G2, rfl, c1, c2⟩ := St.cut (r := [c]) (τ := [o]) rfl h1
  obtain ⟨G3, G4, rfl, c3, c4⟩ := St.cut (r := [c']) (τ := [o']) rfl c2
  have pe : (G3 ++ (G1 ++ G4)).Perm (G1 ++ (G3 ++ G4)) := by
    rw [← List.append_assoc, ← List.append_assoc]
    exact List.Perm.append_right _ List.perm_append_comm
  exact ⟨w, f, th, vw, G3 ++ (G1 ++ G4), c3.app (c1.app c4), pe.nodup_iff.mpr h2, fun a ha => h3 a (pe.mem_iff.mp ha)⟩
theorem St.fzs : ∀ {vs : List V} {ds : List D}, RpAll K J vs ds → St K J H (ds.map .fz) (vs.map some) []
  | _, _, .nil => .nil
  | _, _, .cons h r => .fz h (St.fzs r)
theorem Sta.args {vs : List V} {ds : List D} (w : Wf J H) (h : RpAll K J vs ds) : Sta K ⟨J, H, []⟩ (ds.map .fz) (vs.map some) J H := ⟨w, fun a u e _ => e, fun a e => e, fun a _ _ e => e, [], St.fzs h, List.nodup_nil, fun a ha => by cases ha⟩
theorem Sta.addFzs {vs : List V} {ds : List D} (s : Sta K en cs σ J H) (h : RpAll K J vs ds) : Sta K en (cs ++ ds.map .fz) (σ ++ vs.map some) J H := by
  obtain ⟨w, f, th, vw, G, h1, h2, h3⟩ := s
  exact ⟨w, f, th, vw, G, by simpa using h1.app (St.fzs h), h2, h3⟩
/-- from an entry that owns nothing: new things alone -/
theorem Sta.toNw (s : Sta K ⟨J, H, []⟩ cs σ J' H') (x : Ex J J') : Nw J H J' H' := ⟨x, fun a o e => s.fr a o e (by simp), s.wf, fun a h1 h2 => s.vw a h2 (by simp) h1⟩
end

/-! ### promises -/
/-- frozen data in, a value out, nothing changed -/
def spP (K : PySem.W.Frag) (n : Nat) (g : List D → Option Cell) : Sq := fun vs H Q => vs.length = n ∧ ∃ J ds c, Wf J H ∧ RpAll K J vs ds ∧ g ds = some c ∧ ∀ v J' H', Ex J J' → Sta K ⟨J, H, []⟩ [c] [some v] J' H' → Q v H'
/-- the first argument owned, the others frozen -/
def spQ (K : PySem.W.Frag) (n : Nat) (g : Cell → List D → Option (Cell × Cell)) : Sq := fun vs H Q => vs.length = n ∧ ∃ J Fr pv ws pc ds c pc', vs = pv :: ws ∧ Sta K ⟨J, H, Fr⟩ [pc] [some pv] J H ∧ RpAll K J ws ds ∧ g pc ds = some (c, pc') ∧
  ∀ v J' H', Ex J J' → Sta K ⟨J, H, Fr⟩ [c, pc'] [some v, some pv] J' H' → Q v H'
/-- a body's mirror as a function -/
def fnP (b : MB) (n : Nat) (ds : List D) : Option Cell := match b (ds.map .fz ++ List.replicate (n - ds.length) .un) with
  | some (.rt c _) => some c
  | some (.nx _) => some (.fz .none)
  | _ => none
def fnQ (b : MB) (n : Nat) (pc : Cell) (ds : List D) : Option (Cell × Cell) := match b (pc :: (ds.map .fz ++ List.replicate (n - (ds.length + 1)) .un)) with
  | some (.rt c (pc' :: _)) => some (c, pc')
  | some (.nx (pc' :: _)) => some (.fz .none, pc')
  | _ => none
section
variable {P : Program} {w : World} {K : PySem.W.Frag} {mg : Str → Option Value} {base : Heap} {k : Nat} {f : Addr} {fd : FuncData} {ps N : List Str} {x qual : Str} {st : Stmt} {b : MB}
theorem okP (Df : Fun K x qual st f fd) (S : FnScope N ps (defScope st)) {fx : Nat} (hb : SsX (Fm.ofDef P w K mg base N (defScope st) k S.nd) fx (defBody st) b) : Pr P w K mg base (k + 1) f fd ps (spP K ps.length (fnP b N.length)) := by
  refine pr_of Df S hb (fun vs H Q h => h.1) fun t ht vs H Q ⟨hl, J, ds, c, wf, r, hg, q⟩ => ?_
  have hd := r.length
  have s0 : Sta K ⟨J, H, []⟩ (ds.map .fz ++ List.replicate (N.length - ds.length) .un) (L2.start N vs) J H := by
    unfold L2.start
    rw [hd]
    exact (Sta.args wf r).pad _
  unfold fnP at hg
  split at hg
  · next c' cs' he =>
    cases hg
    exact ht _ _ he _ _ _ _ s0 _ fun v σ' J' H' s' x _ => q v J' H' x (Sta.left (r := [c]) (τ := [some v]) s' rfl)
  · next cs' he =>
    cases hg
    exact ht _ _ he _ _ _ _ s0 _ fun σ' J' H' s' x _ => q .non J' H' x (Sta.left (r := [.fz .none]) (τ := [some .non]) (s'.pushFz .non) rfl)
  · cases hg
theorem okQ (Df : Fun K x qual st f fd) (S : FnScope N ps (defScope st)) {fx : Nat} (hf : 1 ≤ fx) (hb : SsX (Fm.ofDef P w K mg base N (defScope st) k S.nd) fx (defBody st) b) : Pr P w K mg base (k + 1) f fd ps (spQ K ps.length (fnQ b N.length)) := by
  refine pr_of Df S hb (fun vs H Q h => h.1) fun t ht vs H Q ⟨hl, J, Fr, pv, ws, pc, ds, c, pc', ev, s, r, hg, q⟩ => ?_
  subst ev
  have hd := r.length
  have s0 : Sta K ⟨J, H, Fr⟩ (pc :: (ds.map .fz ++ List.replicate (N.length - (ds.length + 1)) .un)) (L2.start N (pv :: ws)) J H := by
    unfold L2.start
    rw [List.length_cons, hd]
    have := (s.addFzs r).pad (N.length - (ds.length + 1))
    simpa using this
  have hd0 : ∀ σ' : L2.St, σ'.take fx = (L2.start N (pv :: ws)).take fx → ∃ ρ, σ' = some pv :: ρ := fun σ' e => by
    cases fx with
    | zero => omega
    | succ fx =>
      cases σ' with
      | nil => simp [L2.start] at e
      | cons a ρ =>
        simp [L2.start] at e
        exact ⟨ρ, by rw [e.1]⟩
  unfold fnQ at hg
  split at hg
  · next c' p' cs' he =>
    cases hg
    refine ht _ _ he _ _ _ _ s0 _ fun v σ' J' H' s' x e => ?_
    obtain ⟨ρ, rfl⟩ := hd0 σ' e
    exact q v J' H' x (Sta.left (r := [c, pc']) (τ := [some v, some pv]) s' rfl)
  · next p' cs' he =>
    cases hg
    refine ht _ _ he _ _ _ _ s0 _ fun σ' J' H' s' x e => ?_
    obtain ⟨ρ, rfl⟩ := hd0 σ' e
    exact q .non J' H' x (Sta.left (r := [.fz .none, pc']) (τ := [some .non, some pv]) (s'.pushFz .non) rfl)
  · cases hg
end

/-! ### calls -/
def mCallP (g : List D → Option Cell) (ma : MA) : M := fun cs => match ma cs with
  | some (ds, c1) => match g ds with
    | some c => some (c, c1)
    | none => none
  | none => none
def mCallQ (g : Cell → List D → Option (Cell × Cell)) (i : Nat) (ma : MA) : M := fun cs => match cs[i]? with
  | some (.ow _ _) => match ma cs with
    | some (ds, c1) => match c1[i]? with
      | some (.ow s d) => match g (.ow s d) ds with
        | some (c, pc) => some (c, c1.set i pc)
        | none => none
      | _ => none
    | none => none
  | _ => none
section
variable {K : PySem.W.Frag} {p : Bool} {ta : TA} {ma : MA} {n : Nat}
theorem e_callP {g : List D → Option Cell} (hn : ∀ cs ds c1, ma cs = some (ds, c1) → ds.length = n) (h : A K p ta ma) : EO K p (tGo (spP K n g) ta) (mCallP g ma) := fun cs c cs' hm en σ J H s Q q => by
  unfold mCallP at hm
  split at hm
  · next ds c1 h1 =>
    split at hm
    · next c2 h2 =>
      cases hm
      refine h _ _ _ h1 en σ J H s _ fun vs J1 H1 s1 r1 x1 n1 => ?_
      refine ⟨by rw [r1.length]; exact hn _ _ _ h1, J1, ds, c, s1.wf, r1, h2, fun v J2 H2 x2 s2 => ?_⟩
      obtain ⟨Fr, t1, t2, t3⟩ := Sta.split (r := []) (τ := []) s1 rfl
      cases t2 rfl
      refine q v J2 H2 (t3 _ _ _ _ s2 x2) (x1.trans x2) (Nw.and n1 fun _ => s2.toNw x2) fun hp s' d F ec ho a ha => (n1 hp).h.back ?_
      subst ec
      obtain ⟨_, _, _, _, G, g1, _, g3⟩ := s2
      cases g1 with
      | ow ho' gr =>
        cases ho'.uniq ho
        rcases g3 a (List.mem_append_left _ ha) with z | z
        · cases z
        · exact z
    · cases hm
  · cases hm
theorem EO.frzA {te : TE} {m : M} (h : EO K p te m) : E K p te (mFrz m) := fun cs c cs' hm en σ J H s Q q => by
  unfold mFrz at hm
  split at hm
  · next sh d cs1 he =>
    cases hm
    refine h _ _ _ he en σ J H s Q fun v J' H' s' x n f => ?_
    obtain ⟨J2, F, ho, e2, s2, out⟩ := s'.freezeN
    refine q v J2 H' s2 (x.trans e2) fun hp => ?_
    have nn := n hp
    exact ⟨nn.j.trans e2, nn.h, s2.wf, fun a h1 h2 => (out a fun ha => h2 (f hp sh d F rfl ho a ha)).trans (nn.fr a h1 h2)⟩
  · exact h _ _ _ hm en σ J H s Q fun v J' H' s' x n _ => q v J' H' s' x n
theorem e_callQ {g : Cell → List D → Option (Cell × Cell)} {i : Nat} (hn : ∀ cs ds c1, ma cs = some (ds, c1) → ds.length + 1 = n) (h : A K false ta ma) : E K false (tGo (spQ K n g) (tCons (tVar i) ta)) (mCallQ g i ma) := fun cs c cs' hm en σ J H s Q q => by
  unfold mCallQ at hm
  split at hm
  · next sh0 d0 h0 =>
    split at hm
    · next ds c1 h1 =>
      split at hm
      · next sh d h3 =>
        split at hm
        · next c2 pc h2 =>
          cases hm
          obtain ⟨pv, e0, _⟩ := s.move h0
          refine ⟨pv, e0, ?_⟩
          refine h _ _ _ h1 en σ J H s _ fun vs J1 H1 s1 r1 x1 _ => ?_
          obtain ⟨pv', e1, s2⟩ := s1.move h3
          rw [e0] at e1
          cases e1
          obtain ⟨Fr, t1, _, t3⟩ := Sta.split (r := [.ow sh d]) (τ := [some pv]) s2 rfl
          refine ⟨by rw [List.length_cons, r1.length]; exact hn _ _ _ h1, J1, Fr, pv, vs, .ow sh d, ds, c, pc, rfl, t1, r1, h2, fun v J2 H2 x2 s3 => ?_⟩
          have s4 : Sta K en (pc :: c :: c1.set i .un) (some pv :: some v :: σ) J2 H2 := Sta.swap (t3 _ _ _ _ s3 x2)
          have hi : i < c1.length := (List.getElem?_eq_some_iff.mp h3).1
          have s5 := s4.set (i := i + 1) (by simp; exact hi)
          have es : σ.set i (some pv) = σ := list_set_self σ i _ e0
          simp only [List.set_cons_succ, List.set_set, es] at s5
          exact q v J2 H2 s5 (x1.trans x2) fun z => nomatch z
        · cases hm
      · cases hm
    · cases hm
  · cases hm
end
/-- a def of the module as it may be called: its address, its promise -/
structure Fn (F : Fm) (x : Str) (k : Nat) (ps : List Str) (sp : Sq) : Prop where
  ex : ∃ (f : Addr) (fd : FuncData), Pr F.P F.w F.K F.mg F.base k f fd ps sp ∧ F.mg x = some (.ref f) ∧ PySem.W.keepIn F.K (.ref f) = true ∧ Binds F.K fd ps []
section
variable {F : Fm} {p : Bool} {k : Nat} {x y : Str} {ps : List Str} {e : Expr} {es : List Expr} {pn pos p2 : Pos} {ma : MA}
theorem fn_go {sp : Sq} {t : TA} (h : Fn F x k ps sp) (hk : k ≤ F.k) (hg : F.sc.names.lookup x = some .globalImplicit) (ha : ∀ X, F.mem X → PA X (e :: es) t) (hdb : (x == ("__debug__" : Str)) = false) (he : ∀ env, starEach (e :: es) env = (false, eval e env) :: starEach es env) (hpl : ∀ env, (backTo pos (starEach es env)).any (·.1) = false) :
    ∀ X, F.mem X → PE X (.Call (.Name x pn) (e :: es) [] pos) (tGo sp t) := fun X hX => by
  obtain ⟨f, fd, R, h1, h2, h3⟩ := h.ex
  rw [← F.hP X hX, ← F.hw X hX, ← F.hK X hX, ← F.hmg X hX, ← F.hbase X hX] at R
  rw [← F.hmg X hX] at h1
  rw [← F.hK X hX] at h2 h3
  exact pe_go R ((F.room X hX).mono hk) (F.gd X hX) (by show X.env.scope.names.lookup x = _; rw [F.hsc X hX]; exact hg) h1 h2 h3 (ha X hX) hdb (he _) (hpl _)
/-- the lengths of the lists that an argument mirror gives -/
structure AxN (F : Fm) (p : Bool) (es : List Expr) (ma : MA) (n : Nat) : Prop where
  ax : AX F p es ma
  len : ∀ cs ds c1, ma cs = some (ds, c1) → ds.length = n
theorem axn_nil : AxN F p [] mNil 0 := ⟨ax_nil, fun cs ds c1 h => by cases h; rfl⟩
theorem axn_cons {m : M} {n : Nat} (h : EX F p e m) (r : AxN F p es ma n) (hs : ∀ env, starEach (e :: es) env = (false, eval e env) :: starEach es env := by intro _; rfl) : AxN F p (e :: es) (mCons m ma) (n + 1) := ⟨ax_cons h r.ax hs, fun cs ds c1 hm => by
  unfold mCons at hm
  split at hm
  · split at hm
    · next h2 =>
      cases hm
      rw [List.length_cons, r.len _ _ _ h2]
    · cases hm
  · cases hm⟩
theorem callP_both {n : Nat} {g : List D → Option Cell} (h : Fn F x k ps (spP F.K n g)) (hk : k ≤ F.k) (hg : F.sc.names.lookup x = some .globalImplicit) (ha : AxN F p (e :: es) ma n) (hdb : (x == ("__debug__" : Str)) = false) (he : ∀ env, starEach (e :: es) env = (false, eval e env) :: starEach es env) (hpl : ∀ env, (backTo pos (starEach es env)).any (·.1) = false) :
    ∃ te, (∀ X, F.mem X → PE X (.Call (.Name x pn) (e :: es) [] pos) te) ∧ EO F.K p te (mCallP g ma) := by
  obtain ⟨t, h1, h2⟩ := ha.ax
  exact ⟨_, fn_go h hk hg h1 hdb he hpl, e_callP ha.len h2⟩
theorem ex_callP {n : Nat} {g : List D → Option Cell} (h : Fn F x k ps (spP F.K n g)) (hk : k ≤ F.k) (hg : F.sc.names.lookup x = some .globalImplicit) (ha : AxN F p (e :: es) ma n) (hdb : (x == ("__debug__" : Str)) = false := by decide) (he : ∀ env, starEach (e :: es) env = (false, eval e env) :: starEach es env := by intro _; rfl) (hpl : ∀ env, (backTo pos (starEach es env)).any (·.1) = false := by intro _; rfl) :
    EX F p (.Call (.Name x pn) (e :: es) [] pos) (mFrz (mCallP g ma)) := let ⟨te, h1, h2⟩ := callP_both h hk hg ha hdb he hpl; ⟨te, h1, h2.frzA⟩
/-- its result owned -/
theorem ex_callPO {n : Nat} {g : List D → Option Cell} (h : Fn F x k ps (spP F.K n g)) (hk : k ≤ F.k) (hg : F.sc.names.lookup x = some .globalImplicit) (ha : AxN F p (e :: es) ma n) (hdb : (x == ("__debug__" : Str)) = false := by decide) (he : ∀ env, starEach (e :: es) env = (false, eval e env) :: starEach es env := by intro _; rfl) (hpl : ∀ env, (backTo pos (starEach es env)).any (·.1) = false := by intro _; rfl) :
    EX F p (.Call (.Name x pn) (e :: es) [] pos) (mCallP g ma) := let ⟨te, h1, h2⟩ := callP_both h hk hg ha hdb he hpl; ⟨te, h1, h2.e⟩
theorem ex_callQ {n : Nat} {g : Cell → List D → Option (Cell × Cell)} (i : Nat) (h : Fn F x k ps (spQ F.K (n + 1) g)) (hk : k ≤ F.k) (hg : F.sc.names.lookup x = some .globalImplicit) (hN : F.N[i]? = some y) (hv : Vis F.sc y) (ha : AxN F false es ma n) (hd : (y == ("__debug__" : Str)) = false := by decide) (hcd : (y == ("__classdict__" : Str)) = false := by decide) (hdb : (x == ("__debug__" : Str)) = false := by decide)
    (he : ∀ env, starEach (.Name y p2 :: es) env = (false, eval (.Name y p2) env) :: starEach es env := by intro _; rfl) (hpl : ∀ env, (backTo pos (starEach es env)).any (·.1) = false := by intro _; rfl) :
    EX F false (.Call (.Name x pn) (.Name y p2 :: es) [] pos) (mCallQ g i ma) := by
  obtain ⟨t, h1, h2⟩ := ha.ax
  refine ⟨_, fn_go h hk hg (fun X hX => pa_cons (pe_var (i := i) (by rw [F.hN X hX]; exact hN) (by rw [F.hsc X hX]; exact hv) hd hcd) (h1 X hX) (he _)) hdb he hpl, e_callQ (fun cs ds c1 hm => by rw [ha.len _ _ _ hm]) h2⟩
end
end Mi

/-! Mi14: isinstance, repr, sorted, list of a dict, join, strip. -/
namespace Mi
open PySem PySem.Spec PyProof.Rows L2

/-! ### isinstance -/
def tyName : D → String
  | .none => "NoneType"
  | .bool _ => "bool"
  | .int _ => "int"
  | .str _ => "str"
  | .list _ => "list"
  | .tuple _ => "tuple"
  | .dict _ => "dict"
def isTy (T : String) (d : D) : Bool := tyName d == T || (T == "int" && tyName d == "bool")
def tyOk (T : String) : Bool := T == "bool" || T == "int" || T == "str" || T == "list" || T == "tuple" || T == "dict"
theorem kit_names : ∀ A ∈ ["NoneType", "bool", "int", "str", "list", "tuple", "dict"], ∀ T ∈ ["bool", "int", "str", "list", "tuple", "dict"], kitB A T = some (A == T || (T == "int" && A == "bool")) := by decide +kernel
theorem tyName_mem (d : D) : tyName d ∈ ["NoneType", "bool", "int", "str", "list", "tuple", "dict"] := by cases d <;> simp [tyName]
theorem kit_all {K : PySem.W.Frag} (d : D) {T : String} (h : tyOk T = true) : PySem.W.kitOne K (.type (tyName d)) (.type T) = some (isTy T d) := by
  refine kit_ty (kit_names _ (tyName_mem d) T ?_)
  unfold tyOk at h
  simp only [Bool.or_eq_true, beq_iff_eq] at h
  rcases h with ((((rfl | rfl) | rfl) | rfl) | rfl) | rfl <;> simp
theorem Rd.kitD {X : Cx} {pins : List (Addr × Obj)} {σ : L2.St} {H : Hp} {s : Shared} (I : Inv X pins σ H s) {a : Addr} {kvs : List (List Key × V)} (h : Rd H a (.dT kvs)) : ∃ o, s.heap.get? a = some o ∧ o.cls = .type "dict" := by
  obtain ⟨_, _, _, _, o, _, _, e, c, _⟩ := dt_rd I.hok h
  exact ⟨o, e, c.1⟩
/-- what the library's isinstance rules ask of a value of data -/
theorem Rp.kit {X : Cx} {pins : List (Addr × Obj)} {σ : L2.St} {J H : Hp} {s : Shared} (I : Inv X pins σ H s) (w : Wf J H) : ∀ {v : V} {d : D} {u : Value}, Rp X.K J v d → RelV v u → ∃ P : Heap → Prop, PySem.W.KitX X.K u (.type (tyName d)) P ∧ P s.heap ∧ u ≠ .builtin "__main__.__loader__#opaque"
  | _, _, _, .non, r => kit_of I r (.base .non)
  | _, _, _, .bl b, r => kit_of I r (.base (.bl b))
  | _, _, _, .int i, r => kit_of I r (.base (.int i))
  | _, _, _, .str x, r => kit_of I r (.base (.str x))
  | _, _, _, .lst h _, r => kit_of I r (.base (.lst (w.sub.ls _ _ h)))
  | _, _, _, .tup h _, r => kit_of I r (.base (.tup (w.sub.ts _ _ h)))
  | _, _, _, .dk (a := a) h _, r => by
    rcases w.sub.rd _ _ h with q | ⟨o, q⟩
    · exact kit_of I r (.base (.dK q))
    · exact kit_of I r (.fDict q)
  | _, _, _, .dt (a := a) h _, r => by
    cases r
    exact ⟨_, PySem.W.kitx_dict, Rd.kitD I (w.sub.rd _ _ h), fun z => nomatch z⟩
def rIsD (K : PySem.W.Frag) (T : String) : List V → Hp → VK → Prop := fun xs H Q => ∃ J v d, Wf J H ∧ Rp K J v d ∧ xs = [v, .ty T] ∧ Q (.bl (isTy T d)) H
theorem call_isD {X : Cx} {T : String} (hT : tyOk T = true) : CallR X (.builtin "isinstance") (rIsD X.K T) := by
  intro pins s σ H xs us Q I r h
  obtain ⟨J, v, d, w, rp, rfl, q⟩ := h
  obtain ⟨u1, u2, rfl, r1, r2⟩ := vals2 r
  obtain rfl : u2 = .type T := r2
  obtain ⟨P, Z, p, hx⟩ := rp.kit I w r1
  exact PySem.W.kia_one Z I.kIn p (kit_all d hT) hx fun tk => ⟨.bl _, H, I.tok tk, rfl, q⟩
def rIsDs (K : PySem.W.Frag) (Ts : List String) : List V → Hp → VK → Prop := fun xs H Q => ∃ J v d tp, Wf J H ∧ Rp K J v d ∧ xs = [v, .ref tp] ∧ H tp = some (.tup (Ts.map V.ty)) ∧ Q (.bl (Ts.any fun T => isTy T d)) H
theorem kit_any {K : PySem.W.Frag} (d : D) : ∀ (Ts : List String), Ts.all tyOk = true → PySem.W.kitAny K (.type (tyName d)) (Ts.map Value.type) = some (Ts.any fun T => isTy T d)
  | [], _ => rfl
  | T :: Ts, h => by
    simp only [List.all_cons, Bool.and_eq_true] at h
    rw [List.map_cons]
    unfold PySem.W.kitAny
    rw [kit_all d h.1, List.any_cons]
    cases isTy T d with
    | true => rfl
    | false => simpa using kit_any d Ts h.2
theorem vals_ty : ∀ {Ts : List String} {us : List Value}, Vals (Ts.map V.ty) us → us = Ts.map Value.type
  | [], _, r => by cases r; rfl
  | T :: Ts, _, r => by
    cases r with
    | cons r1 r2 =>
      rw [List.map_cons, ← vals_ty r2]
      exact congrArg (· :: _) r1
theorem call_isDs {X : Cx} {Ts : List String} (hT : Ts.all tyOk = true) : CallR X (.builtin "isinstance") (rIsDs X.K Ts) := by
  intro pins s σ H xs us Q I r h
  obtain ⟨J, v, d, tp, w, rp, rfl, hH, q⟩ := h
  obtain ⟨u1, u2, rfl, r1, r2⟩ := vals2 r
  obtain rfl : u2 = .ref tp := r2
  obtain ⟨P, Z, p, hx⟩ := rp.kit I w r1
  obtain ⟨_, its, rv, ⟨oc, od, dt, sl⟩, h1, h2, n, h3⟩ := (show ObjOk X.prog X.w H s.heap tp (.tup (Ts.map V.ty)) from I.hok tp _ hH)
  cases vals_ty rv
  simp only at h2 h3
  subst h2 h3
  exact PySem.W.kia_tup Z I.kIn p h1 (kit_any d Ts hT) hx fun tk => ⟨.bl _, H, I.tok tk, rfl, q⟩
/-- isinstance(e, T) -/
def mIs (Ts : List String) (m : M) : M := fun cs => match m cs with
  | some (.fz d, c1) => some (.fz (.bool (Ts.any fun T => isTy T d)), c1)
  | _ => none
section
variable {F : Fm} {p : Bool} {e : Expr} {m : M} {pn pos p2 p3 : Pos} {x T : Str}
theorem pe_tyn {X : Cx} {T : String} (hg : Gl X x) (hm : X.mg x = none) (hv : bootBuiltins x = some (.type T)) (hn : x ≠ "__name__") (hdb : (x == ("__debug__" : Str)) = false) : PE X (.Name x pos) (tC (.ty T)) :=
  ⟨fun pins s σ H Q I h => ld_blt I hg hm hv ⟨.ty T, H, I, rfl, h⟩ hn hdb⟩
theorem ex_is1 {T : String} (h : EX F p e m) (hg : F.sc.names.lookup ("isinstance" : Str) = some .globalImplicit) (hm : F.mg "isinstance" = none) (hg2 : F.sc.names.lookup x = some .globalImplicit) (hm2 : F.mg x = none) (hv : bootBuiltins x = some (.type T)) (hT : tyOk T = true)
    (hn : x ≠ "__name__" := by decide) (hdb : (x == ("__debug__" : Str)) = false := by decide) (he : ∀ env, starEach [e, .Name x p2] env = (false, eval e env) :: starEach [.Name x p2] env := by intro _; rfl) :
    EX F p (.Call (.Name "isinstance" pn) [e, .Name x p2] [] pos) (mIs [T] m) := by
  obtain ⟨t, h1, h2⟩ := h
  refine ⟨tCB (rIsD F.K T) (tCons t (tCons (tC (.ty T)) tNil)), fun X hX => ?_, fun cs c cs' hm' en σ J H s Q q => ?_⟩
  · rw [← F.hK X hX]
    exact pe_callB (call_isD hT) (by show X.env.scope.names.lookup _ = _; rw [F.hsc X hX]; exact hg) (by rw [F.hmg X hX]; exact hm) (by decide +kernel) (pa_cons (h1 X hX) (pa_cons (pe_tyn (by show X.env.scope.names.lookup _ = _; rw [F.hsc X hX]; exact hg2) (by rw [F.hmg X hX]; exact hm2) hv hn hdb) pa_nil) (he _)) (by decide) (by decide) (he _) rfl
  · unfold mIs at hm'
    split at hm'
    · next d c1 h0 =>
      cases hm'
      refine h2 _ _ _ h0 en σ J H s _ fun v J1 H1 s1 x1 n1 => ?_
      refine ⟨J1, v, d, s1.wf, s1.headFz, rfl, ?_⟩
      have := q (.bl (isTy T d)) J1 H1
      simp only [List.any_cons, List.any_nil, Bool.or_false] at this
      exact this (s1.pop.pushFz (.bl _)) x1 n1
    · cases hm'
/-- the names of built-in types, in a row -/
inductive Tys (F : Fm) : List Expr → List String → Prop
  | nil : Tys F [] []
  | cons {x : Str} {T : String} {q : Pos} {es : List Expr} {Ts : List String} : F.sc.names.lookup x = some .globalImplicit → F.mg x = none → bootBuiltins x = some (.type T) → x ≠ "__name__" → (x == ("__debug__" : Str)) = false →
      (∀ env, starEach (.Name x q :: es) env = (false, eval (.Name x q) env) :: starEach es env) → Tys F es Ts → Tys F (.Name x q :: es) (T :: Ts)
def tTys : List String → TA
  | [] => tNil
  | T :: Ts => tCons (tC (.ty T)) (tTys Ts)
theorem Tys.pa : ∀ {es : List Expr} {Ts : List String}, Tys F es Ts → ∀ X, F.mem X → PA X es (tTys Ts)
  | _, _, .nil, X, hX => pa_nil
  | _, _, .cons h1 h2 h3 h4 h5 h6 r, X, hX => pa_cons (pe_tyn (by show X.env.scope.names.lookup _ = _; rw [F.hsc X hX]; exact h1) (by rw [F.hmg X hX]; exact h2) h3 h4 h5) (Tys.pa r X hX) (h6 _)
theorem tTys_run {σ : L2.St} {H : Hp} : ∀ {Ts : List String} {Q : List V → Hp → Prop}, Q (Ts.map V.ty) H → tTys Ts σ H Q
  | [], _, q => q
  | T :: Ts, Q, q => tTys_run (Ts := Ts) (Q := fun xs H2 => Q (V.ty T :: xs) H2) q
theorem ex_isN {es : List Expr} {Ts : List String} {k : Nat} (h : EX F p e m) (hg : F.sc.names.lookup ("isinstance" : Str) = some .globalImplicit) (hm : F.mg "isinstance" = none) (ht : Tys F es Ts) (hT : Ts.all tyOk = true) (hl : Ts.length ≤ 1000)
    (he : ∀ env, starEach [e, .Tuple es k p2] env = (false, eval e env) :: starEach [.Tuple es k p2] env := by intro _; rfl) :
    EX F p (.Call (.Name "isinstance" pn) [e, .Tuple es k p2] [] pos) (mIs Ts m) := by
  obtain ⟨t, h1, h2⟩ := h
  refine ⟨tCB (rIsDs F.K Ts) (tCons t (tCons (tTup (tTys Ts)) tNil)), fun X hX => ?_, fun cs c cs' hm' en σ J H s Q q => ?_⟩
  · rw [← F.hK X hX]
    exact pe_callB (call_isDs hT) (by show X.env.scope.names.lookup _ = _; rw [F.hsc X hX]; exact hg) (by rw [F.hmg X hX]; exact hm) (by decide +kernel) (pa_cons (h1 X hX) (pa_cons (pe_tup (ht.pa X hX)) pa_nil) (he _)) (by decide) (by decide) (he _) rfl
  · unfold mIs at hm'
    split at hm'
    · next d c1 h0 =>
      cases hm'
      refine h2 _ _ _ h0 en σ J H s _ fun v J1 H1 s1 x1 n1 => ?_
      refine tTys_run ⟨by rw [List.length_map]; exact Nat.le_trans hl (by decide), fun a ha => ?_⟩
      have n2 := Nw.new (o := .tup (Ts.map V.ty)) s1.wf ha
      exact ⟨_, v, d, a, n2.wf, s1.headFz.ex n2.j, rfl, upd_same, q _ _ _ ((s1.pop.nw n2).pushFz (.bl _)) (x1.trans n2.j) (Nw.and n1 fun _ => n2)⟩
    · cases hm'
end

/-! ### repr -/
def reprD : List D → Option D := fun ds => match ds with
  | [.list xs] => if (PyData.list xs).showable && decide ((PyData.list xs).depth ≤ 100) && decide ((PyData.list xs).shown.length ≤ LIM) && !(PyData.list xs).hasDict then some (.str (PyData.list xs).shown) else none
  | [.tuple xs] => if (PyData.tuple xs).showable && decide ((PyData.tuple xs).depth ≤ 100) && decide ((PyData.tuple xs).shown.length ≤ LIM) && (!(PyData.tuple xs).hasDict || noList (.tuple xs)) then some (.str (PyData.tuple xs).shown) else none
  | [.dict xs] => if (PyData.dict xs).showable && decide ((PyData.dict xs).depth ≤ 100) && decide ((PyData.dict xs).shown.length ≤ LIM) && noList (.dict xs) then some (.str (PyData.dict xs).shown) else none
  | _ => none
theorem call_reprD {X : Cx} {k : Nat} (gd : X.A.guards = some []) (room : Room k X.A) : CallR X (.builtin "repr") (RVn X.K reprD) := fun pins s σ H xs us Q I rx h => by
  obtain ⟨J, ds, z, w, r, hf, q⟩ := h
  have hun := room.un
  have core : ∀ (d : D) (v : V) (a : Addr) (u : Value), v = .ref a → RelV v u → Rp X.K J v d → d.showable = true → d.depth ≤ 100 → d.shown.length ≤ LIM → (d.hasDict = true → noList d = true) → some (PyData.str d.shown) = some z →
      wpAny (model X.prog X.w) X.A (call (.builtin "repr") [u]) (EP X pins σ Q) X.xe s := fun d v a u ev ru rp s1 s2 s3 s4 ez => by
    cases ez
    obtain ⟨as, rd, no⟩ := (rp.le w.sub).reads I ru
    subst ev
    cases ru
    refine repr_of_reads' rd s1 (fun z => no (s4 z)) gd (by omega) (fun b o e => e) (fun h' t tk k => ?_) (Nat.le_trans s3 lim_line)
    exact ⟨.str d.shown, H, I.kept (t' := tk) k, ⟨t, rfl⟩, q _ J H (.refl w) (.str _)⟩
  unfold reprD at hf
  split at hf
  · split at hf
    · next hc =>
      simp only [Bool.and_eq_true, decide_eq_true_eq, Bool.not_eq_true'] at hc
      cases r with
      | cons r1 r2 =>
        cases r2
        cases rx with
        | cons rx1 rx2 =>
          cases rx2
          cases id r1 with
          | lst h1 _ => exact core _ _ _ _ rfl rx1 r1 hc.1.1.1 hc.1.1.2 hc.1.2 (fun z => by rw [hc.2] at z; cases z) hf
    · cases hf
  · split at hf
    · next hc =>
      simp only [Bool.and_eq_true, decide_eq_true_eq, Bool.not_eq_true', Bool.or_eq_true] at hc
      cases r with
      | cons r1 r2 =>
        cases r2
        cases rx with
        | cons rx1 rx2 =>
          cases rx2
          cases id r1 with
          | tup h1 _ => exact core _ _ _ _ rfl rx1 r1 hc.1.1.1 hc.1.1.2 hc.1.2 (fun z => hc.2.elim (fun y => by rw [y] at z; cases z) id) hf
    · cases hf
  · split at hf
    · next hc =>
      simp only [Bool.and_eq_true, decide_eq_true_eq, Bool.not_eq_true'] at hc
      cases r with
      | cons r1 r2 =>
        cases r2
        cases rx with
        | cons rx1 rx2 =>
          cases rx2
          cases id r1 with
          | dk h1 _ => exact core _ _ _ _ rfl rx1 r1 hc.1.1.1 hc.1.1.2 hc.1.2 (fun _ => hc.2) hf
          | dt h1 _ => exact core _ _ _ _ rfl rx1 r1 hc.1.1.1 hc.1.1.2 hc.1.2 (fun _ => hc.2) hf
    · cases hf
  · cases hf
end Mi

/-! Mi15: a dict's keys in a row; sorted; methods of frozen values. -/
namespace Mi
open PySem PySem.Spec PyProof.Rows L2

/-! ### a dict as a source of its keys, by its raw entries -/
section
variable {prog : Program} {w : World} {A : Around} {d : Addr} {o : Obj} {es : Array DictEntry} {ep : Nat}
theorem raw_walks (hh : A.handled = none) (it : Addr) (hne : d ≠ it) (hc : o.ExactDict) (hd : o.data = .dict es ep) :
    Walks prog w A it [it, d] [it] es.size (fun i v => ∃ en, es[i]? = some en ∧ v = en.key) (fun i h => h.IsKeyIter it d i es.size ep ∧ h.get? d = some o) where
  sub := fun b hb => by simp at hb; simp [hb]
  frame := fun _ _ _ st k => ⟨st.1.at fun o e => k it (by simp) o e, k d (by simp) o st.2⟩
  item := fun i s Q E hi st hQ => by
    refine next_key_item st.1 st.2 hd rfl (Array.getElem?_eq_getElem hi) fun h' st' sb => ?_
    exact hQ _ h' s.toks ⟨_, Array.getElem?_eq_getElem hi, rfl⟩ ⟨st', (sb.2 d hne).trans st.2⟩ fun b ob hb e => (sb.2 b (fun z => hb (by simp [z]))).trans e
  done := fun s Q E st hQ => next_key_end hh st.1 st.2 hd rfl (Nat.le_refl _) fun h' eb => hQ h' s.toks fun b ob hb e => eb b ob (fun z => hb (by simp [z])) e
  self := fun _ s Q E st hQ => by
    refine wpAny_pyIter_slot st.1.typeIs F.slot_dict_keyiterator_iter (wpAny_call_entry F.slot_dict_keyiterator_iter st.1.typeIs F.entry_dict_keyiterator_iter ?_ (F.args_dict_keyiterator_iter_1 _))
    show wpAny _ _ (ret (.ref it)) _ _ s
    exact wpAny_pure ⟨_, rfl, "dict_keyiterator", _, st.1.typeIs, F.slot_dict_keyiterator_next.lookup, hQ⟩
theorem raw_src (lo : (d == sysModules) = false) (hc : o.ExactDict) (hd : o.data = .dict es ep) : PySem.W.KdlSrc prog w "dict" d d es.size (fun i v => ∃ en, es[i]? = some en ∧ v = en.key) (fun h => h.get? d = some o) where
  type := fun _ hm => ⟨o, hm, hc.1⟩
  there := fun _ hm => ⟨Heap.lt_size hm, Heap.lt_size hm⟩
  keep := fun _ _ hm k => k d (.inl rfl) o hm
  notList := by decide
  notTuple := by decide
  hint := fun _ _ _ _ hm hq => PySem.W.kdl_hint_dict ⟨o, hm, hc.1⟩ hq
  iter := fun A s hh hm => ⟨_, _, (fun _ _ hq => iter_keys lo hm hc hd hq), raw_walks hh _ (Nat.ne_of_lt (Heap.lt_size hm)) hc hd, ⟨⟨_, Heap.get?_push_size _ rfl, rfl, rfl⟩, Heap.get?_push_of_some _ hm⟩⟩
theorem items_keys {es : Array DictEntry} {acc : Array Value} (h : ItemsOf (fun i v => ∃ en, es[i]? = some en ∧ v = en.key) acc es.size) : acc.toList = es.toList.map (·.key) := by
  refine List.ext_getElem? fun i => ?_
  by_cases hi : i < acc.size
  · obtain ⟨en, e1, e2⟩ := h.2 i acc[i] (Array.getElem?_eq_getElem hi)
    rw [List.getElem?_map, Array.getElem?_toList, Array.getElem?_toList, e1, Array.getElem?_eq_getElem hi, e2]
    rfl
  · have hs : acc.size = es.size := h.1
    rw [List.getElem?_eq_none (by rw [Array.length_toList]; omega), List.getElem?_eq_none (by rw [List.length_map, Array.length_toList]; omega)]
end
section
variable {X : Cx} {pins : List (Addr × Obj)} {σ : L2.St} {J H : Hp} {s : Shared}
theorem rp_keyD {K : PySem.W.Frag} {J : Hp} : ∀ k : Key, Rp K J (kV k) (keyD k)
  | .inl i => .int i
  | .inr x => .str x
theorem rp_keysD {K : PySem.W.Frag} {J : Hp} : ∀ k : List Key, RpAll K J (k.map kV) (k.map keyD)
  | [] => .nil
  | k :: ks => .cons (rp_keyD k) (rp_keysD ks)
theorem keysK_rel {K : PySem.W.Frag} {prog : Program} {w : World} : ∀ {kvs : List (Key × V)} {ds : List (D × D)} {vs : List (Key × Value)} {es : List DictEntry}, RpK K J kvs ds → KV kvs vs → Pairs (mixKind prog w) es vs →
    ∃ ys, Vals ys (es.map (·.key)) ∧ RpAll K J ys (ds.map (·.1))
  | _, _, _, _, .nil, r, q => by
    cases r
    cases q
    exact ⟨[], .nil, .nil⟩
  | _, _, _, _, .cons (k := k) h1 h2, r, q => by
    cases r with
    | cons r1 r2 =>
      cases q with
      | cons q1 q2 q3 =>
        obtain ⟨ys, i1, i2⟩ := keysK_rel h2 r2 q3
        rw [← r1.1] at q1
        exact ⟨kV k :: ys, .cons (relV_key q1) i1, .cons (rp_keyD k) i2⟩
theorem keysT_rel (w : Wf J H) {K : PySem.W.Frag} : ∀ {kvs : List (List Key × V)} {ds : List (D × D)} {xs : List (List Key × Addr × Value)} {es : List DictEntry}, RpT K J kvs ds →
    Paired (fun (p : List Key × V) (q : List Key × Addr × Value) => p.1 = q.1 ∧ H q.2.1 = some (.tup (p.1.map kV)) ∧ RelV p.2 q.2.2) kvs xs → es = xs.map (entryOfKey (tupleKind (mixKind X.prog X.w))) → ∃ ys, Vals ys (es.map (·.key)) ∧ RpAll K J ys (ds.map (·.1))
  | _, _, _, _, .nil, r, q => by
    cases r
    subst q
    exact ⟨[], .nil, .nil⟩
  | _, _, _, _, .cons (k := k) h1 h2, r, q => by
    cases r with
    | @cons _ q0 _ _ r1 r2 =>
      subst q
      obtain ⟨ys, i1, i2⟩ := keysT_rel w h2 r2 rfl
      exact ⟨.ref q0.2.1 :: ys, .cons rfl i1, .cons (.tup (w.tup _ _ r1.2.1) (rp_keysD k)) i2⟩
/-- the raw dict behind frozen data -/
theorem Rp.raw (I : Inv X pins σ H s) (w : Wf J H) {a : Addr} {ds : List (D × D)} (h : Rp X.K J (.ref a) (.dict ds)) : ∃ (o : Obj) (es : Array DictEntry) (ep : Nat) (ys : List V), (a == sysModules) = false ∧ s.heap.get? a = some o ∧ o.ExactDict ∧ o.data = .dict es ep ∧ es.size = ds.length ∧
    es.size ≤ sizeLine ∧ Vals ys (es.toList.map (·.key)) ∧ RpAll X.K J ys (ds.map (·.1)) := by
  cases h with
  | dk h hr =>
    obtain ⟨z, hS, vs, rv, o, es, ep, ho, hc, hd, _, hp, _⟩ := (w.sub.rd _ _ h).ok I.hok
    obtain ⟨ys, y1, y2⟩ := keysK_rel hr rv hp
    have e1 : es.size = ds.length := by
      have := y1.length; have := y2.length
      simp at *
      omega
    have e2 := hr.length
    exact ⟨o, es, ep, ys, hS, ho, hc, hd, e1, by rw [e1, ← e2]; exact z, y1, y2⟩
  | dt h hr =>
    obtain ⟨z, hS, xs, rv, o, es, ep, ho, hc, hd, he, _⟩ := (w.sub.rd _ _ h).ok I.hok
    obtain ⟨ys, y1, y2⟩ := keysT_rel w hr rv he
    have e1 : es.size = ds.length := by
      have := y1.length; have := y2.length
      simp at *
      omega
    have e2 := hr.length
    exact ⟨o, es, ep, ys, hS, ho, hc, hd, e1, by rw [e1, ← e2]; exact z, y1, y2⟩
end
/-- list(x), also of a dict -/
def listD2 : List D → Option D
  | [.dict es] => some (.list (es.map (·.1)))
  | ds => listD ds
theorem call_listD2 {X : Cx} (hc : X.calm = true) : CallR X (.type "list") (RVn X.K listD2) := fun pins s σ H xs us Q I rx h => by
  obtain ⟨J, ds, z, w, r, hf, q⟩ := h
  unfold listD2 at hf
  split at hf
  · cases hf
    cases r with
    | cons r1 r2 =>
      cases r2
      cases rx with
      | cons rx1 rx2 =>
        cases rx2
        have go : ∀ (a : Addr) (u : Value), RelV (.ref a) u → Rp X.K J (.ref a) (.dict _) → wpAny (model X.prog X.w) X.A (call (.type "list") [u]) (EP X pins σ Q) X.xe s := fun a u ru rp => by
          cases ru
          obtain ⟨o, es', ep, ys, lo, ho, hx, hd, e1, z, y1, y2⟩ := rp.raw I w
          refine PySem.W.kdl_call (raw_src (prog := X.prog) (w := X.w) lo hx hd) (I.ok.hd hc) ho z fun h' tk acc c' k hD hacc => ?_
          have hf : H s.heap.objs.size = none := I.hok.fresh (Nat.le_refl _)
          have hl : ys.length ≤ sizeLine := by
            have := y1.length
            simp at this
            omega
          obtain ⟨J', n, r⟩ : ∃ J', Nw J H J' (upd H s.heap.objs.size (.lst ys)) ∧ Rp X.K J' (.ref s.heap.objs.size) (.list _) := ⟨_, Nw.new w hf, .lst upd_same (y2.ex (.new (w.dom _ hf)))⟩
          refine ⟨.ref s.heap.objs.size, _, I.laid (t' := tk) k (Nat.le_refl _) (o := .lst ys) ⟨hl, acc.toList, c', by rw [items_keys hacc]; exact y1, by rw [Array.toArray_toList]; exact hD⟩, rfl, q _ J' _ n r⟩
        cases id r1 with
        | dk h1 _ => exact go _ _ rx1 r1
        | dt h1 _ => exact go _ _ rx1 r1
  · exact call_listD' pins s σ H xs us Q I rx ⟨J, _, z, w, r, hf, q⟩

/-! ### sorted -/
def alikeB (ds : List D) : Bool := ds.all fun d => ds.all fun e => PySem.W.alike d e
def isTupC : D → Bool
  | .tuple (_ :: _) => true
  | _ => false
def plainC : D → Bool
  | .none => false
  | .tuple _ => false
  | _ => true
def sortOk (ds : List D) : Bool := alikeB ds && (ds.all isTupC || ds.all plainC) && decide (ds.length ≤ LIM) && ds.all fun d => decide (d.depth ≤ 100)
def sortL (ds : List D) : List D := ds.mergeSort (PySem.W.dataLe false id)
def sortedD : List D → Option D
  | [.list ds] => if sortOk ds then some (.list (sortL ds)) else none
  | [.dict es] => if sortOk (es.map (·.1)) then some (.list (sortL (es.map (·.1)))) else none
  | _ => none
theorem sortOk_facts {ds : List D} (h : sortOk ds = true) : PySem.W.AllAlike ds ∧ PySem.W.Sortable ds ∧ ds.length ≤ LIM ∧ ∀ d ∈ ds, d.depth ≤ 100 := by
  unfold sortOk alikeB at h
  simp only [Bool.and_eq_true, Bool.or_eq_true, List.all_eq_true, decide_eq_true_eq] at h
  obtain ⟨⟨⟨h1, h2⟩, h3⟩, h4⟩ := h
  refine ⟨fun d hd e he => h1 d hd e he, ?_, h3, h4⟩
  rcases h2 with h2 | h2
  · refine .inl fun d hd => ?_
    have := h2 d hd
    unfold isTupC at this
    split at this
    · exact ⟨_, _, rfl⟩
    · cases this
  · refine .inr fun d hd => ?_
    have := h2 d hd
    refine ⟨fun e => ?_, fun xs e => ?_⟩
    · subst e; cases this
    · subst e; cases this
mutual
theorem reads_there {h : Heap} : ∀ {v : Value} {d : D} {as : List Addr}, Reads h v d as → ∀ b ∈ as, ∃ o, h.get? b = some o
  | _, _, _, .none, _, z => nomatch z
  | _, _, _, .bool _, _, z => nomatch z
  | _, _, _, .int _ _, _, z => nomatch z
  | _, _, _, .str _ _, _, z => nomatch z
  | _, _, _, .list h1 _ _ h4, b, z => by
    rcases List.mem_cons.mp z with e | e
    · subst e; exact ⟨_, h1⟩
    · exact readsAll_there h4 b e
  | _, _, _, .tuple h1 _ _ h4, b, z => readsAll_there h4 b z
  | _, _, _, .dict h1 _ _ h4 h5, b, z => by
    rcases List.mem_append.mp z with e | e
    · rcases List.mem_cons.mp e with e | e
      · subst e; exact ⟨_, h1⟩
      · exact readsAll_there h4 b e
    · exact readsAll_there h5 b e
theorem readsAll_there {h : Heap} : ∀ {v : List Value} {d : List D} {as : List Addr}, ReadsAll h v d as → ∀ b ∈ as, ∃ o, h.get? b = some o
  | _, _, _, .nil, _, z => nomatch z
  | _, _, _, .cons h1 h2, b, z => (List.mem_append.mp z).elim (reads_there h1 b) (readsAll_there h2 b)
end
/-- values with the data that they stand for -/
theorem each_zip {X : Cx} {pins : List (Addr × Obj)} {σ : L2.St} {J H : Hp} {s : Shared} (I : Inv X pins σ H s) (w : Wf J H) : ∀ {ys : List V} {ds : List D} {us : List Value}, RpAll X.K J ys ds → Vals ys us →
    PySem.W.EachIs (fun u (p : V × D) => RelV p.1 u) us (ys.zip ds) ∧ PySem.W.EachIs (fun u (p : V × D) => ∃ as, Reads s.heap u p.2 as) us (ys.zip ds) ∧ (ys.zip ds).map (·.2) = ds ∧ ∀ p ∈ ys.zip ds, Rp X.K J p.1 p.2
  | _, _, _, .nil, r => by
    cases r
    exact ⟨.nil, .nil, rfl, fun p hp => by cases hp⟩
  | _, _, _, .cons h hr, r => by
    cases r with
    | cons r1 r2 =>
      obtain ⟨a, b, c, d⟩ := each_zip I w hr r2
      obtain ⟨as, rd, _⟩ := (h.le w.sub).reads I r1
      refine ⟨.cons r1 a, .cons ⟨as, rd⟩ b, by simp [c], fun p hp => ?_⟩
      rcases List.mem_cons.mp hp with e | e
      · subst e; exact h
      · exact d p e
theorem each_vals : ∀ {us : List Value} {ps : List (V × D)}, PySem.W.EachIs (fun u (p : V × D) => RelV p.1 u) us ps → Vals (ps.map (·.1)) us
  | _, _, .nil => .nil
  | _, _, .cons h r => .cons h (each_vals r)
theorem rpall_of {K : PySem.W.Frag} {J : Hp} : ∀ {ps : List (V × D)}, (∀ p ∈ ps, Rp K J p.1 p.2) → RpAll K J (ps.map (·.1)) (ps.map (·.2))
  | [], _ => .nil
  | p :: ps, h => .cons (h p List.mem_cons_self) (rpall_of fun q hq => h q (List.mem_cons_of_mem _ hq))
theorem sort_zip (ps : List (V × D)) : (ps.mergeSort (PySem.W.dataLe false fun p => p.2)).map (·.2) = sortL (ps.map (·.2)) := by
  unfold sortL
  exact List.map_mergeSort fun a _ b _ => rfl
theorem call_sortedD2 {X : Cx} {k : Nat} (room : Room k X.A) : CallR X (.builtin "sorted") (RVn X.K sortedD) := fun pins s σ H xs us Q I rx h => by
  obtain ⟨J, ds, z, w, r, hf, q⟩ := h
  have hun := room.un
  unfold sortedD at hf
  split at hf
  · next ds0 =>
    split at hf
    · next hk =>
      cases hf
      obtain ⟨f1, f2, f3, f4⟩ := sortOk_facts hk
      cases r with
      | cons r1 r2 =>
        cases r2
        cases rx with
        | cons rx1 rx2 =>
          cases rx2
          cases r1 with
          | @lst a ys _ h1 a1 =>
            cases rx1
            obtain ⟨its, rv, pl, hz⟩ := I.list (SqL.of (w.sub.ls _ _ h1))
            obtain ⟨e1, e2, e3, e4⟩ := each_zip I w a1 rv
            have hl : (ys.zip ds0).length = ds0.length := by
              have := congrArg List.length e3
              simpa using this
            refine PySem.W.sorted_data (enc := fun p : V × D => p.2) (bs := ys.zip ds0) (vs := its) pl.isList e1 e2 (by rw [e3]; exact f1) (by rw [e3]; exact f2) (by rw [hl]; exact Nat.le_trans f3 lim_line) (fun b hb => ?_) fun out ho eo => ?_
            · have := f4 b.2 (by rw [← e3]; exact List.mem_map_of_mem hb)
              omega
            · have hfr : H (s.heap.objs.size + 1) = none := I.hok.fresh (Nat.le_succ _)
              obtain ⟨c, hc⟩ := sortedAll_at s.heap its out.toArray
              have hm : ∀ p ∈ (ys.zip ds0).mergeSort (PySem.W.dataLe false fun p => p.2), Rp X.K J p.1 p.2 := fun p hp => e4 p (List.mem_mergeSort.mp hp)
              have hv := each_vals eo
              refine ⟨.ref (s.heap.objs.size + 1), _, I.laid (t' := s.toks) (fun b o e => sortedAll_old e) (Nat.le_succ _) (o := .lst (((ys.zip ds0).mergeSort (PySem.W.dataLe false fun p => p.2)).map (·.1))) ⟨?_, out, c, hv, hc⟩, rfl, q _ _ _ (Nw.new w hfr) (.lst upd_same ?_)⟩
              · rw [List.length_map, List.length_mergeSort, hl]
                exact Nat.le_trans f3 lim_line
              · have := (rpall_of hm).ex (.new (o := .lst (((ys.zip ds0).mergeSort (PySem.W.dataLe false fun p => p.2)).map (·.1))) (w.dom _ hfr))
                rw [sort_zip, e3] at this
                exact this
    · cases hf
  · next es0 =>
    split at hf
    · next hk =>
      cases hf
      obtain ⟨f1, f2, f3, f4⟩ := sortOk_facts hk
      cases r with
      | cons r1 r2 =>
        cases r2
        cases rx with
        | cons rx1 rx2 =>
          cases rx2
          have go : ∀ (a : Addr) (u : Value), RelV (.ref a) u → Rp X.K J (.ref a) (.dict es0) → wpAny (model X.prog X.w) X.A (call (.builtin "sorted") [u]) (EP X pins σ Q) X.xe s := fun a u ru rp => by
            cases ru
            obtain ⟨o, es', ep, ys, lo, ho, hx, hd, e1, z, y1, y2⟩ := rp.raw I w
            refine Calls.call_function_entry PyProof.Rows.kind_sorted PyProof.Rows.plain_sorted PyProof.Rows.entry_sorted (PyProof.Rows.args_sorted1 _) ?_
            unfold Builtin.«sorted»
            refine wpAny_bind (m := checkCount "sorted" 1 1 _) (wpAny_pure ?_)
            refine wpAny_bind (PySem.W.kdu_collect (A := X.A.in1) (raw_src (prog := X.prog) (w := X.w) lo hx hd) room.hd ho z fun h' tk acc keep hacc => ?_)
            have ek := items_keys hacc
            rw [← ek] at y1
            have I1 : Inv X pins σ H { s with heap := h', toks := tk } := I.kept keep
            have hal : acc.toList.length ≤ sizeLine := by rw [ek, List.length_map, Array.length_toList]; exact z
            refine wpAny_bind (wpAny_newList ?_ hal)
            have hoL : (h'.push (seqObj "list" acc.toList.toArray 0)).get? h'.objs.size = some (seqObj "list" acc.toList.toArray 0) := Heap.get?_push_size _ rfl
            show wpAny _ _ _ _ _ { s with heap := h'.push (seqObj "list" acc.toList.toArray 0), toks := tk }
            obtain ⟨g1, g2, g3, g4⟩ := each_zip I1 w y2 y1
            have hl : (ys.zip (es0.map (·.1))).length = (es0.map (·.1)).length := by
              have := congrArg List.length g3
              simpa using this
            -- the data do not read off the new list
            have g5 : PySem.W.EachIs (fun u (p : V × D) => ∃ as, Reads (h'.push (seqObj "list" acc.toList.toArray 0)) u p.2 as ∧ h'.objs.size ∉ as) acc.toList (ys.zip (es0.map (·.1))) :=
              g2.mono fun u p ⟨as, rd⟩ => ⟨as, PyProof.Rows.Reads.keeps (fun b o e => Heap.get?_push_of_some _ e) rd, fun hm => by
                obtain ⟨o', e'⟩ := reads_there rd _ hm
                exact Nat.lt_irrefl _ (Heap.lt_size e')⟩
            refine wpAny_bind (wpAny_holding (PySem.W.list_sort_data (enc := fun p : V × D => p.2) (bs := ys.zip (es0.map (·.1))) hoL g1 g5 (by rw [g3]; exact f1) (by rw [g3]; exact f2) (by rw [hl]; exact Nat.le_trans f3 lim_line) (fun b hb => ?_) fun out ho2 eo => ?_))
            · have := f4 b.2 (by rw [← g3]; exact List.mem_map_of_mem hb)
              show X.A.units + 1 + 1 + _ < _
              omega
            · have hfr : H h'.objs.size = none := I1.hok.fresh (Nat.le_refl _)
              obtain ⟨c, hc⟩ := PyProof.Rows.sortedHeap_at (vs := acc.toList) (out := out.toArray) hoL
              have hm : ∀ p ∈ (ys.zip (es0.map (·.1))).mergeSort (PySem.W.dataLe false fun p => p.2), Rp X.K J p.1 p.2 := fun p hp => g4 p (List.mem_mergeSort.mp hp)
              have hv := each_vals eo
              refine wpAny_pure ⟨_, rfl, .ref h'.objs.size, _, I1.laid (t' := tk) (fun b o e => ?_) (Nat.le_refl _) (o := .lst (((ys.zip (es0.map (·.1))).mergeSort (PySem.W.dataLe false fun p => p.2)).map (·.1))) ⟨?_, out, c, hv, hc⟩, rfl, q _ _ _ (Nw.new w hfr) (.lst upd_same ?_)⟩
              · have hb : b < h'.objs.size := Heap.lt_size e
                rw [PyProof.Rows.sortedHeap_old (Nat.ne_of_lt hb) (by rw [size_push']; exact Nat.lt_succ_of_lt hb)]
                exact Heap.get?_push_of_some _ e
              · rw [List.length_map, List.length_mergeSort, hl]
                exact Nat.le_trans f3 lim_line
              · have := (rpall_of hm).ex (.new (o := .lst (((ys.zip (es0.map (·.1))).mergeSort (PySem.W.dataLe false fun p => p.2)).map (·.1))) (w.dom _ hfr))
                rw [sort_zip, g3] at this
                exact this
          cases id r1 with
          | dk h1 _ => exact go _ _ rx1 r1
          | dt h1 _ => exact go _ _ rx1 r1
    · cases hf
  · cases hf
end Mi

/-! Mi16: methods of frozen values, names of the module, reading through an owned container. -/
namespace Mi
open PySem PySem.Spec PyProof.Rows L2

/-! ### o.m(..), o and the arguments frozen -/
def RVm (K : PySem.W.Frag) (f : D → List D → Option D) : V → List V → Hp → VK → Prop := fun x xs H Q => ∃ J d ds z, Wf J H ∧ Rp K J x d ∧ RpAll K J xs ds ∧ f d ds = some z ∧ ∀ u J' H', Nw J H J' H' → Rp K J' u z → Q u H'
def mMeth (f : D → List D → Option D) (mo : M) (ma : MA) : M := fun cs => match mo cs with
  | some (.fz d, c1) => match ma c1 with
    | some (ds, c2) => match f d ds with
      | some z => some (.fz z, c2)
      | none => none
    | none => none
  | _ => none
def tMd (K : PySem.W.Frag) (T : String) (r : V → List V → Hp → VK → Prop) (to : TE) (t : TA) : TE := fun σ H Q => to σ H fun x H1 => (∃ J d, Wf J H1 ∧ Rp K J x d ∧ tyName d = T) ∧ t σ H1 fun xs H2 => r x xs H2 Q
section
variable {X : Cx} {o e : Expr} {es : List Expr} {to : TE} {t : TA} {name : Str} {apos cpos : Pos} {T id : String} {r : V → List V → Hp → VK → Prop}
theorem Rp.typ {pins : List (Addr × Obj)} {σ : L2.St} {J H : Hp} {s : Shared} {x : V} {d : D} {u : Value} (I : Inv X pins σ H s) (w : Wf J H) (rp : Rp X.K J x d) (rv : RelV x u) (hT : T = "str" ∨ T = "list" ∨ T = "dict") (hd : tyName d = T) :
    s.TypeIs u T ∧ ∀ a, u = .ref a → ∃ ob, s.heap.get? a = some ob ∧ ob.dict = none := by
  cases rp with
  | str x => exact tyV_is I rv (show tyV X.K T (.str x) H from hd.symm)
  | lst h _ => exact tyV_is I rv (show tyV X.K T (.ref _) H from .inl ⟨hd.symm, _, SqL.of (w.sub.ls _ _ h)⟩)
  | dk h _ =>
    cases rv
    obtain ⟨_, _, vs, _, o, _, _, e, c, _⟩ := dk_rd I.hok (w.sub.rd _ _ h)
    subst hd
    exact ⟨⟨o, e, c.1⟩, fun a q => by cases q; exact ⟨o, e, c.2.1⟩⟩
  | dt h _ =>
    cases rv
    obtain ⟨_, _, vs, _, o, _, _, e, c, _⟩ := dt_rd I.hok (w.sub.rd _ _ h)
    subst hd
    exact ⟨⟨o, e, c.1⟩, fun a q => by cases q; exact ⟨o, e, c.2.1⟩⟩
  | _ => rcases hT with rfl | rfl | rfl <;> exact absurd hd (by simp [tyName])
theorem pe_md (hT : T = "str" ∨ T = "list" ∨ T = "dict") (pa : PlainAttrs T) (slot : Slot T name id) (hty : typeOf (.builtin id) = pure (.type "method_descriptor")) (hm : MtR X id r) (ho : PE X o to) (ha : PA X (e :: es) t)
    (hbase : attributeBase o name X.env (eval o X.env) = eval o X.env)
    (hfew : ((backTo cpos (starEach (e :: es) X.env)).all (fun x => !x.1) && (backToKw cpos (keywordEach [] X.env)).all (fun x => x.1.isSome) && decide ((e :: es).length + ([] : List Keyword).length + (if ([] : List Keyword).isEmpty then 0 else 1) < 30)) = true)
    (hline : (apos.endLine == cpos.line) = true) (hs : starEach (e :: es) X.env = (false, eval e X.env) :: starEach es X.env) (hplain : (backTo cpos (starEach es X.env)).any (·.1) = false) :
    PE X (.Call (.Attribute o name apos) (e :: es) [] cpos) (tMd X.K T r to t) := ⟨fun pins s σ H Q I h => by
  refine wpAny_Call_method_late hbase hfew hline rfl (thn (ho.run pins s σ H _ I h) fun v s1 ⟨x, H1, I1, r1, ⟨J, d, w, rp, hd⟩, q1⟩ => ?_)
  obtain ⟨t1, t2⟩ := rp.typ I1 w r1 hT hd
  refine ⟨T, id, pa, slot, hty, t1, t2, ?_⟩
  have A1 := ha.run cpos pins s1 σ H1 _ I1 q1
  rw [hs] at A1 ⊢
  refine Calls.callWith_builtin (by show (false || (backTo cpos (starEach es X.env)).any (·.1)) = false; rw [hplain] <;> rfl) (Calls.evalArgs_plain (thn A1 fun us s2 ⟨vs, H2, I2, r2, q2⟩ => ?_))
  exact hm pins s2 σ H2 x vs v us Q I2 r1 r2 q2⟩
theorem pe_md0 (hT : T = "str" ∨ T = "list" ∨ T = "dict") (pa : PlainAttrs T) (slot : Slot T name id) (hty : typeOf (.builtin id) = pure (.type "method_descriptor")) (hm : MtR X id r) (ho : PE X o to)
    (hbase : attributeBase o name X.env (eval o X.env) = eval o X.env) (hline : (apos.endLine == cpos.line) = true) : PE X (.Call (.Attribute o name apos) [] [] cpos) (tMd X.K T r to tNil) := ⟨fun pins s σ H Q I h => by
  refine wpAny_Call_method0_late hbase hline (thn (ho.run pins s σ H _ I h) fun v s1 ⟨x, H1, I1, r1, ⟨J, d, w, rp, hd⟩, q1⟩ => ?_)
  obtain ⟨t1, t2⟩ := rp.typ I1 w r1 hT hd
  exact ⟨T, id, pa, slot, hty, t1, t2, Calls.callWith_builtin rfl (PySem.evalArgs_none (hm pins s1 σ H1 x [] v [] Q I1 r1 .nil q1))⟩⟩
end
section
variable {F : Fm} {p : Bool} {o e : Expr} {es : List Expr} {mo : M} {ma : MA} {name : Str} {apos cpos : Pos} {T id : String} {f : D → List D → Option D}
theorem e_meth {K : PySem.W.Frag} {to : TE} {t : TA} (hf : ∀ d ds z, f d ds = some z → tyName d = T) (ho : E K p to mo) (ha : A K p t ma) : E K p (tMd K T (RVm K f) to t) (mMeth f mo ma) := fun cs c cs' hm en σ J H s Q q => by
  unfold mMeth at hm
  split at hm
  · next d c1 h1 =>
    split at hm
    · next ds c2 h2 =>
      split at hm
      · next z h3 =>
        cases hm
        refine ho _ _ _ h1 en σ J H s _ fun v J1 H1 s1 x1 n1 => ⟨⟨J1, d, s1.wf, s1.headFz, hf _ _ _ h3⟩, ?_⟩
        refine ha _ _ _ h2 en σ J1 H1 s1.pop _ fun vs J2 H2 s2 r2 x2 n2 => ?_
        exact ⟨J2, d, ds, z, s2.wf, s1.headFz.ex x2, r2, h3, fun u J3 H3 n3 r3 => q u J3 H3 ((s2.nw n3).pushFz r3) ((x1.trans x2).trans n3.j) (Nw.and (Nw.and n1 n2) fun _ => n3)⟩
      · cases hm
    · cases hm
  · cases hm
theorem ex_meth (hf : ∀ d ds z, f d ds = some z → tyName d = T) (hT : T = "str" ∨ T = "list" ∨ T = "dict") (pa : PlainAttrs T) (slot : Slot T name id) (hty : typeOf (.builtin id) = pure (.type "method_descriptor")) (hm : ∀ X, F.mem X → MtR X id (RVm X.K f)) (ho : EX F p o mo) (ha : AX F p (e :: es) ma)
    (hbase : ∀ env, attributeBase o name env (eval o env) = eval o env := by intro _; rfl)
    (hfew : ∀ env, ((backTo cpos (starEach (e :: es) env)).all (fun x => !x.1) && (backToKw cpos (keywordEach [] env)).all (fun x => x.1.isSome) && decide ((e :: es).length + ([] : List Keyword).length + (if ([] : List Keyword).isEmpty then 0 else 1) < 30)) = true := by intro _; rfl)
    (hline : (apos.endLine == cpos.line) = true := by rfl) (hs : ∀ env, starEach (e :: es) env = (false, eval e env) :: starEach es env := by intro _; rfl) (hplain : ∀ env, (backTo cpos (starEach es env)).any (·.1) = false := by intro _; rfl) :
    EX F p (.Call (.Attribute o name apos) (e :: es) [] cpos) (mMeth f mo ma) := by
  obtain ⟨to, o1, o2⟩ := ho
  obtain ⟨t, a1, a2⟩ := ha
  refine ⟨_, fun X hX => ?_, e_meth hf o2 a2⟩
  rw [← F.hK X hX]
  exact pe_md hT pa slot hty (hm X hX) (o1 X hX) (a1 X hX) (hbase _) (hfew _) hline (hs _) (hplain _)
theorem ex_meth0 (hf : ∀ d ds z, f d ds = some z → tyName d = T) (hT : T = "str" ∨ T = "list" ∨ T = "dict") (pa : PlainAttrs T) (slot : Slot T name id) (hty : typeOf (.builtin id) = pure (.type "method_descriptor")) (hm : ∀ X, F.mem X → MtR X id (RVm X.K f)) (ho : EX F p o mo)
    (hbase : ∀ env, attributeBase o name env (eval o env) = eval o env := by intro _; rfl) (hline : (apos.endLine == cpos.line) = true := by rfl) :
    EX F p (.Call (.Attribute o name apos) [] [] cpos) (mMeth f mo mNil) := by
  obtain ⟨to, o1, o2⟩ := ho
  refine ⟨_, fun X hX => ?_, e_meth (t := tNil) (ma := mNil) hf o2 (fun cs ds cs' h en σ J H s Q q => by cases h; exact q [] J H s .nil (.refl J) fun _ => .refl s.wf)⟩
  rw [← F.hK X hX]
  exact pe_md0 hT pa slot hty (hm X hX) (o1 X hX) (hbase _) hline
end

/-! ### join, strip, get -/
def strsOf : List D → Option (List Str)
  | [] => some []
  | .str x :: ds => (strsOf ds).map (x :: ·)
  | _ :: _ => none
theorem strsOf_vals {K : PySem.W.Frag} {J : Hp} : ∀ {vs : List V} {ds : List D} {ys : List Str}, RpAll K J vs ds → strsOf ds = some ys → vs = ys.map V.str
  | _, _, _, .nil, h => by cases h; rfl
  | _, _, _, .cons (d := d) h r, e => by
    cases d with
    | str x =>
      simp only [strsOf, Option.map_eq_some_iff] at e
      obtain ⟨ys, e1, rfl⟩ := e
      rw [strsOf_vals r e1]
      cases h
      rfl
    | _ => simp [strsOf] at e
def joinL (a : Str) (ds : List D) : Option D := match strsOf ds with
  | some ys => if (ys.map (·.length)).sum + ys.length * a.length ≤ 16777216 then some (.str (Txt.join a ys)) else none
  | none => none
def joinD : D → List D → Option D
  | .str a, [.list ds] => joinL a ds
  | .str a, [.tuple ds] => joinL a ds
  | _, _ => none
theorem mt_joinD {X : Cx} : MtR X "str.join" (RVm X.K joinD) := fun pins s σ H x xs v us Q I rx rv h => by
  obtain ⟨J, d, ds, z, w, rp, r, hf, q⟩ := h
  unfold joinD at hf
  split at hf
  · next a ds0 =>
    unfold joinL at hf
    split at hf
    · next ys hy =>
      split at hf
      · next hz =>
        cases hf
        cases rp
        cases r with
        | cons r1 r2 =>
          cases r2
          cases r1 with
          | lst h1 a1 =>
            have e := strsOf_vals a1 hy
            subst e
            exact mt_join pins s σ H _ _ v us Q I rx rv ⟨a, _, ys, rfl, rfl, .inl (SqL.of (w.sub.ls _ _ h1)), hz, q _ J H (.refl w) (.str _)⟩
      · cases hf
    · cases hf
  · next a ds0 =>
    unfold joinL at hf
    split at hf
    · next ys hy =>
      split at hf
      · next hz =>
        cases hf
        cases rp
        cases r with
        | cons r1 r2 =>
          cases r2
          cases r1 with
          | tup h1 a1 =>
            have e := strsOf_vals a1 hy
            subst e
            exact mt_join pins s σ H _ _ v us Q I rx rv ⟨a, _, ys, rfl, rfl, .inr (SqT.of (w.sub.ts _ _ h1)), hz, q _ J H (.refl w) (.str _)⟩
      · cases hf
    · cases hf
  · cases hf
theorem joinD_ty : ∀ d ds z, joinD d ds = some z → tyName d = "str" := fun d ds z h => by
  cases d <;> first | rfl | simp [joinD] at h
def stripD : D → List D → Option D
  | .str a, [.str b] => if a.length ≤ LIM then some (.str (Txt.stripChars a b)) else none
  | _, _ => none
theorem mt_stripD {X : Cx} : MtR X "str.strip" (RVm X.K stripD) := fun pins s σ H x xs v us Q I rx rv h => by
  obtain ⟨J, d, ds, z, w, rp, r, hf, q⟩ := h
  unfold stripD at hf
  split at hf
  · split at hf
    · next hz =>
      cases hf
      cases rp
      cases r with
      | cons r1 r2 =>
        cases r2; cases r1
        exact mt_stripChars pins s σ H _ _ v us Q I rx rv ⟨_, _, rfl, rfl, Nat.le_trans hz lim_line, q _ J H (.refl w) (.str _)⟩
    · cases hf
  · cases hf
theorem stripD_ty : ∀ d ds z, stripD d ds = some z → tyName d = "str" := fun d ds z h => by
  cases d <;> first | rfl | simp [stripD] at h
theorem ex_join {F : Fm} {p : Bool} {o e : Expr} {es : List Expr} {mo : M} {ma : MA} {apos cpos : Pos} (ho : EX F p o mo) (ha : AX F p (e :: es) ma)
    (hbase : ∀ env, attributeBase o "join" env (eval o env) = eval o env := by intro _; rfl)
    (hfew : ∀ env, ((backTo cpos (starEach (e :: es) env)).all (fun x => !x.1) && (backToKw cpos (keywordEach [] env)).all (fun x => x.1.isSome) && decide ((e :: es).length + ([] : List Keyword).length + (if ([] : List Keyword).isEmpty then 0 else 1) < 30)) = true := by intro _; rfl)
    (hline : (apos.endLine == cpos.line) = true := by rfl) (hs : ∀ env, starEach (e :: es) env = (false, eval e env) :: starEach es env := by intro _; rfl) (hplain : ∀ env, (backTo cpos (starEach es env)).any (·.1) = false := by intro _; rfl) :
    EX F p (.Call (.Attribute o "join" apos) (e :: es) [] cpos) (mMeth joinD mo ma) :=
  ex_meth joinD_ty (.inl rfl) PySem.F.plainAttrs_str PySem.F.slot_str_join PySem.F.type_str_join (fun X _ => mt_joinD) ho ha hbase hfew hline hs hplain
theorem ex_strip {F : Fm} {p : Bool} {o e : Expr} {es : List Expr} {mo : M} {ma : MA} {apos cpos : Pos} (ho : EX F p o mo) (ha : AX F p (e :: es) ma)
    (hbase : ∀ env, attributeBase o "strip" env (eval o env) = eval o env := by intro _; rfl)
    (hfew : ∀ env, ((backTo cpos (starEach (e :: es) env)).all (fun x => !x.1) && (backToKw cpos (keywordEach [] env)).all (fun x => x.1.isSome) && decide ((e :: es).length + ([] : List Keyword).length + (if ([] : List Keyword).isEmpty then 0 else 1) < 30)) = true := by intro _; rfl)
    (hline : (apos.endLine == cpos.line) = true := by rfl) (hs : ∀ env, starEach (e :: es) env = (false, eval e env) :: starEach es env := by intro _; rfl) (hplain : ∀ env, (backTo cpos (starEach es env)).any (·.1) = false := by intro _; rfl) :
    EX F p (.Call (.Attribute o "strip" apos) (e :: es) [] cpos) (mMeth stripD mo ma) :=
  ex_meth stripD_ty (.inl rfl) PySem.F.plainAttrs_str PySem.F.slot_str_strip PySem.F.type_str_strip (fun X _ => mt_stripD) ho ha hbase hfew hline hs hplain

/-! ### a name of the module that stands for a text or a number -/
theorem ex_glob {F : Fm} {p : Bool} {x : Str} {pos : Pos} {v : V} {d : D} {u : Value} (hg : F.sc.names.lookup x = some .globalImplicit) (hm : F.mg x = some u) (hv : RelV v u) (r : ∀ J, Rp F.K J v d) (hd : (x == ("__debug__" : Str)) = false := by decide) : EX F p (.Name x pos) (mC d) :=
  ⟨tC v, fun X hX => ⟨fun pins s σ H Q I h => ld_glob I (by show X.env.scope.names.lookup x = _; rw [F.hsc X hX]; exact hg) (by rw [F.hmg X hX]; exact hm) ⟨v, H, I, hv, h⟩ hd⟩, e_c r⟩
end Mi

/-! Mi17: changes of owned data. -/
namespace Mi
open PySem PySem.Spec PyProof.Rows L2

/-- the cell as data of that shape -/
def cellAs (s : Sh) : Cell → Option D
  | .fz d => if s = .fz then some d else none
  | .ow s' d => if s' = s then some d else none
  | .un => none
def putD (es : List (D × D)) (q : KK) (k v : D) : List (D × D) :=
  if (es.any fun e => decide (kOf e.1 = some q)) = true then es.map (fun e => if kOf e.1 = some q then (e.1, v) else e) else es ++ [(k, v)]
def cntD (es : List (D × D)) (q : KK) : Nat := (es.filter fun e => decide (kOf e.1 = some q)).length
section
variable {K : PySem.W.Frag} {J J' H H' : Hp} {en : Ent} {cs cs' : List Cell} {σ : L2.St} {c : Cell} {o : Option V} {v : V} {d : D}
theorem Sta.asOw {s : Sh} (h : cellAs s c = some d) (st : Sta K en (c :: cs) (some v :: σ) J H) : Sta K en (.ow s d :: cs) (some v :: σ) J H := by
  unfold cellAs at h
  split at h
  · split at h
    · next e =>
      cases h
      subst e
      obtain ⟨w, f, th, vw, G, h1, h2, h3⟩ := st
      cases h1 with
      | fz r hr => exact ⟨w, f, th, vw, G, .ow (F := []) ⟨r, rfl⟩ hr, h2, h3⟩
    · cases h
  · split at h
    · next e =>
      cases h
      subst e
      exact st
    · cases h
  · cases h
/-- the second thing on top taken up by the first one, which is rewritten at q -/
theorem Sta.merge {s1 s2 s' : Sh} {d1 d2 d' : D} {v1 v2 v' : V} {q : Addr} {u : HO} (st : Sta K en (.ow s1 d1 :: .ow s2 d2 :: cs) (some v1 :: some v2 :: σ) J H) (hu : Own1 u)
    (h : ∀ F1 F2, Ow K J H s1 v1 d1 F1 → Ow K J H s2 v2 d2 F2 → (F1 ++ F2).Nodup → q ∈ F1 ∧ ∃ F', F'.Nodup ∧ (∀ a ∈ F', a ∈ F1 ++ F2) ∧ Ow K J (upd H q u) s' v' d' F') :
    Sta K en (.ow s' d' :: cs) (some v' :: σ) J (upd H q u) := by
  obtain ⟨w, f, th, vw, G, h1, h2, h3⟩ := st
  cases h1 with
  | @ow _ _ _ F1 _ _ G1 r1 h1 =>
    cases h1 with
    | @ow _ _ _ F2 _ _ G2 r2 h1 =>
      have h2' : ((F1 ++ F2) ++ G2).Nodup := by rw [List.append_assoc]; exact h2
      obtain ⟨n1, n2, n3⟩ := List.nodup_append.mp h2'
      obtain ⟨hq, F', m1, m2, m3⟩ := h F1 F2 r1 r2 n1
      obtain ⟨hj, ou, eo, _⟩ := r1.at q hq
      have h3' : ∀ a ∈ F1 ++ F2, a ∈ en.F ∨ en.H a = none := fun a ha => h3 a (by
        rcases List.mem_append.mp ha with z | z
        · exact List.mem_append_left _ z
        · exact List.mem_append_right _ (List.mem_append_left _ z))
      refine ⟨w.put hj fun xs z => by rw [z] at hu; exact hu, fun a o e hn => ?_, fun a e => ?_, vw, F' ++ G2, .ow m3 (h1.mono (.refl J) (fun a ha => upd_ne fun z => n3 q (List.mem_append_left _ hq) a ha z.symm) fun a ha => (h1.at a ha).1),
        List.nodup_append.mpr ⟨m1, n2, fun a ha b hb => n3 a (m2 a ha) b hb⟩, fun a ha => ?_⟩
      · by_cases z : a = q
        · subst z
          rcases h3' a (List.mem_append_left _ hq) with y | y
          · exact absurd y hn
          · rw [e] at y; cases y
        · rw [upd_ne z]; exact f a o e hn
      · by_cases z : a = q
        · subst z; rw [upd_same] at e; cases e
        · rw [upd_ne z] at e; exact th a e
      · rcases List.mem_append.mp ha with z | z
        · exact h3' a (m2 a z)
        · exact h3 a (List.mem_append_right _ (List.mem_append_right _ z))
theorem All3.snocF {R : V → D → List Addr → Prop} : ∀ {vs : List V} {ds : List D} {G : List Addr} {v : V} {d : D} {F : List Addr}, All3 R vs ds G → R v d F → All3 R (vs ++ [v]) (ds ++ [d]) (G ++ F)
  | _, _, _, _, _, F, .nil, h => by simpa using All3.cons h All3.nil
  | _, _, _, _, _, F, .cons h r, g => by
    rw [List.append_assoc]
    exact .cons h (All3.snocF r g)
theorem All3.len {R : V → D → List Addr → Prop} : ∀ {vs : List V} {ds : List D} {G : List Addr}, All3 R vs ds G → vs.length = ds.length
  | _, _, _, .nil => rfl
  | _, _, _, .cons _ r => by rw [List.length_cons, List.length_cons, All3.len r]
theorem All3.setF {R : V → D → List Addr → Prop} {v : V} {d : D} {F : List Addr} (h : R v d F) : ∀ {vs : List V} {ds : List D} {G : List Addr} (i : Nat), All3 R vs ds G → i < ds.length → (G ++ F).Nodup → ∃ G', All3 R (vs.set i v) (ds.set i d) G' ∧ G'.Nodup ∧ ∀ a ∈ G', a ∈ G ++ F
  | _, _, _, _, .nil, hi, _ => by simp at hi
  | _, _, _, 0, .cons (F := F0) (G := G0) h0 r, _, nd => by
    refine ⟨F ++ G0, .cons h r, ?_, fun a ha => ?_⟩
    · rw [List.append_assoc] at nd
      have n1 := (List.nodup_append.mp nd).2.1
      exact List.perm_append_comm.nodup_iff.mp n1
    · simp only [List.mem_append] at ha ⊢
      rcases ha with z | z
      · exact .inr z
      · exact .inl (.inr z)
  | _, _, _, i + 1, .cons (F := F0) (G := G0) h0 r, hi, nd => by
    rw [List.append_assoc] at nd
    obtain ⟨n1, n2, n3⟩ := List.nodup_append.mp nd
    obtain ⟨G', g1, g2, g3⟩ := All3.setF h i r (by simpa using hi) n2
    refine ⟨F0 ++ G', .cons h0 g1, List.nodup_append.mpr ⟨n1, g2, fun a ha b hb => n3 a ha b (g3 b hb)⟩, fun a ha => ?_⟩
    rw [List.append_assoc]
    rcases List.mem_append.mp ha with z | z
    · exact List.mem_append_left _ z
    · exact List.mem_append_right _ (g3 a z)

theorem All3K.len {R : V → D → List Addr → Prop} : ∀ {vs : List (Key × V)} {ds : List (D × D)} {G : List Addr}, All3K R vs ds G → vs.length = ds.length
  | _, _, _, .nil => rfl
  | _, _, _, .cons _ r => by rw [List.length_cons, List.length_cons, All3K.len r]
theorem All3K.any {R : V → D → List Addr → Prop} (k : Key) : ∀ {vs : List (Key × V)} {ds : List (D × D)} {G : List Addr}, All3K R vs ds G → (vs.any fun kv => decide (kv.1 = k)) = ds.any fun e => decide (kOf e.1 = some (Sum.inl k))
  | _, _, _, .nil => rfl
  | _, _, _, .cons (k := k') _ r => by
    rw [List.any_cons, List.any_cons, All3K.any k r]
    congr 1
    simp only [kOf_keyD, Option.some.injEq, Sum.inl.injEq]
theorem All3K.snocF {R : V → D → List Addr → Prop} (k : Key) : ∀ {vs : List (Key × V)} {ds : List (D × D)} {G : List Addr} {v : V} {d : D} {F : List Addr}, All3K R vs ds G → R v d F → All3K R (vs ++ [(k, v)]) (ds ++ [(keyD k, d)]) (G ++ F)
  | _, _, _, _, _, F, .nil, h => by simpa using All3K.cons (k := k) h All3K.nil
  | _, _, _, _, _, F, .cons h r, g => by
    rw [List.append_assoc]
    exact .cons h (All3K.snocF k r g)
theorem All3K.repl {R : V → D → List Addr → Prop} {v : V} {d : D} {F : List Addr} (h : R v d F) (k : Key) : ∀ {vs : List (Key × V)} {ds : List (D × D)} {G : List Addr}, All3K R vs ds G → (F = [] ∨ cntD ds (Sum.inl k) ≤ 1) → (G ++ F).Nodup →
    ∃ G', All3K R (vs.map fun kv => if kv.1 = k then (kv.1, v) else kv) (ds.map fun e => if kOf e.1 = some (Sum.inl k) then (e.1, d) else e) G' ∧ G'.Nodup ∧ ∀ a ∈ G', a ∈ G ++ F
  | _, _, _, .nil, _, nd => ⟨[], .nil, List.nodup_nil, fun a ha => by cases ha⟩
  | _, _, _, .cons (k := k') (F := F0) (G := G0) h0 r, hc, nd => by
    rw [List.append_assoc] at nd
    obtain ⟨n1, n2, n3⟩ := List.nodup_append.mp nd
    by_cases e : k' = k
    · subst e
      rcases hc with hc | hc
      · subst hc
        obtain ⟨G', g1, g2, g3⟩ := All3K.repl h k' r (.inl rfl) n2
        refine ⟨[] ++ G', ?_, by simpa using g2, fun a ha => ?_⟩
        · rw [List.map_cons, List.map_cons, if_pos rfl, if_pos (kOf_keyD k')]
          exact .cons h g1
        · rw [List.append_assoc]
          exact List.mem_append_right _ (g3 a (by simpa using ha))
      · rename_i vs0 ds0
        have none : ∀ p ∈ ds0, ¬ kOf p.1 = some (Sum.inl k') := fun p hp hk => by
          unfold cntD at hc
          rw [List.filter_cons, if_pos (by simpa using kOf_keyD k'), List.length_cons] at hc
          have : p ∈ ds0.filter fun e => decide (kOf e.1 = some (Sum.inl k')) := List.mem_filter.mpr ⟨hp, by simpa using hk⟩
          have := List.length_pos_of_mem this
          omega
        have e1 : (ds0.map fun e => if kOf e.1 = some (Sum.inl k') then (e.1, d) else e) = ds0 := by
          refine (List.map_congr_left fun p hp => if_neg (none p hp)).trans (List.map_id' _)
        have e2 : (vs0.map fun kv => if kv.1 = k' then (kv.1, v) else kv) = vs0 := by
          have an := r.any k'
          refine (List.map_congr_left fun p hp => if_neg fun z => ?_).trans (List.map_id' _)
          have : (vs0.any fun kv => decide (kv.1 = k')) = true := List.any_eq_true.mpr ⟨p, hp, by simpa using z⟩
          rw [an] at this
          obtain ⟨p', hp', z'⟩ := List.any_eq_true.mp this
          exact none p' hp' (by simpa using z')
        refine ⟨F ++ G0, ?_, List.perm_append_comm.nodup_iff.mp n2, fun a ha => ?_⟩
        · rw [List.map_cons, List.map_cons, if_pos rfl, if_pos (kOf_keyD k'), e1, e2]
          exact .cons h r
        · simp only [List.mem_append] at ha ⊢
          rcases ha with z | z
          · exact .inr z
          · exact .inl (.inr z)
    · rename_i vs0 ds0
      have hc' : F = [] ∨ cntD ds0 (Sum.inl k) ≤ 1 := hc.imp id fun z => by
        unfold cntD at z ⊢
        rw [List.filter_cons, if_neg (by simpa [kOf_keyD] using e)] at z
        exact z
      obtain ⟨G', g1, g2, g3⟩ := All3K.repl h k r hc' n2
      refine ⟨F0 ++ G', ?_, List.nodup_append.mpr ⟨n1, g2, fun a ha b hb => n3 a ha b (g3 b hb)⟩, fun a ha => ?_⟩
      · rw [List.map_cons, List.map_cons, if_neg e, if_neg (by simpa [kOf_keyD] using e)]
        exact .cons h0 g1
      · rw [List.append_assoc]
        rcases List.mem_append.mp ha with z | z
        · exact List.mem_append_left _ z
        · exact List.mem_append_right _ (g3 a z)
theorem All3K.put {R : V → D → List Addr → Prop} {v : V} {d : D} {F : List Addr} (h : R v d F) (k : Key) {vs : List (Key × V)} {ds : List (D × D)} {G : List Addr} (r : All3K R vs ds G) (hc : F = [] ∨ cntD ds (Sum.inl k) ≤ 1) (nd : (G ++ F).Nodup) :
    ∃ G', All3K R (putK vs k v) (putD ds (Sum.inl k) (keyD k) d) G' ∧ G'.Nodup ∧ ∀ a ∈ G', a ∈ G ++ F := by
  unfold putK putD
  rw [r.any k]
  split
  · exact r.repl h k hc nd
  · exact ⟨G ++ F, r.snocF k h, nd, fun a ha => ha⟩

theorem All3T.len {R : V → D → List Addr → Prop} : ∀ {vs : List (List Key × V)} {ds : List (D × D)} {G : List Addr}, All3T R vs ds G → vs.length = ds.length
  | _, _, _, .nil => rfl
  | _, _, _, .cons _ r => by rw [List.length_cons, List.length_cons, All3T.len r]
theorem All3T.any {R : V → D → List Addr → Prop} (k : List Key) : ∀ {vs : List (List Key × V)} {ds : List (D × D)} {G : List Addr}, All3T R vs ds G → (vs.any fun kv => decide (kv.1 = k)) = ds.any fun e => decide (kOf e.1 = some (Sum.inr k))
  | _, _, _, .nil => rfl
  | _, _, _, .cons (k := k') _ r => by
    rw [List.any_cons, List.any_cons, All3T.any k r]
    congr 1
    simp only [kOf_tuple, Option.some.injEq, Sum.inr.injEq]
theorem All3T.snocF {R : V → D → List Addr → Prop} (k : List Key) : ∀ {vs : List (List Key × V)} {ds : List (D × D)} {G : List Addr} {v : V} {d : D} {F : List Addr}, All3T R vs ds G → R v d F → All3T R (vs ++ [(k, v)]) (ds ++ [(.tuple (k.map keyD), d)]) (G ++ F)
  | _, _, _, _, _, F, .nil, h => by simpa using All3T.cons (k := k) h All3T.nil
  | _, _, _, _, _, F, .cons h r, g => by
    rw [List.append_assoc]
    exact .cons h (All3T.snocF k r g)
theorem All3T.repl {R : V → D → List Addr → Prop} {v : V} {d : D} {F : List Addr} (h : R v d F) (k : List Key) : ∀ {vs : List (List Key × V)} {ds : List (D × D)} {G : List Addr}, All3T R vs ds G → (F = [] ∨ cntD ds (Sum.inr k) ≤ 1) → (G ++ F).Nodup →
    ∃ G', All3T R (vs.map fun kv => if kv.1 = k then (kv.1, v) else kv) (ds.map fun e => if kOf e.1 = some (Sum.inr k) then (e.1, d) else e) G' ∧ G'.Nodup ∧ ∀ a ∈ G', a ∈ G ++ F
  | _, _, _, .nil, _, nd => ⟨[], .nil, List.nodup_nil, fun a ha => by cases ha⟩
  | _, _, _, .cons (k := k') (F := F0) (G := G0) h0 r, hc, nd => by
    rw [List.append_assoc] at nd
    obtain ⟨n1, n2, n3⟩ := List.nodup_append.mp nd
    by_cases e : k' = k
    · subst e
      rcases hc with hc | hc
      · subst hc
        obtain ⟨G', g1, g2, g3⟩ := All3T.repl h k' r (.inl rfl) n2
        refine ⟨[] ++ G', ?_, by simpa using g2, fun a ha => ?_⟩
        · rw [List.map_cons, List.map_cons, if_pos rfl, if_pos (kOf_tuple k')]
          exact .cons h g1
        · rw [List.append_assoc]
          exact List.mem_append_right _ (g3 a (by simpa using ha))
      · rename_i vs0 ds0
        have none : ∀ p ∈ ds0, ¬ kOf p.1 = some (Sum.inr k') := fun p hp hk => by
          unfold cntD at hc
          rw [List.filter_cons, if_pos (by simpa using kOf_tuple k'), List.length_cons] at hc
          have : p ∈ ds0.filter fun e => decide (kOf e.1 = some (Sum.inr k')) := List.mem_filter.mpr ⟨hp, by simpa using hk⟩
          have := List.length_pos_of_mem this
          omega
        have e1 : (ds0.map fun e => if kOf e.1 = some (Sum.inr k') then (e.1, d) else e) = ds0 := by
          refine (List.map_congr_left fun p hp => if_neg (none p hp)).trans (List.map_id' _)
        have e2 : (vs0.map fun kv => if kv.1 = k' then (kv.1, v) else kv) = vs0 := by
          have an := r.any k'
          refine (List.map_congr_left fun p hp => if_neg fun z => ?_).trans (List.map_id' _)
          have : (vs0.any fun kv => decide (kv.1 = k')) = true := List.any_eq_true.mpr ⟨p, hp, by simpa using z⟩
          rw [an] at this
          obtain ⟨p', hp', z'⟩ := List.any_eq_true.mp this
          exact none p' hp' (by simpa using z')
        refine ⟨F ++ G0, ?_, List.perm_append_comm.nodup_iff.mp n2, fun a ha => ?_⟩
        · rw [List.map_cons, List.map_cons, if_pos rfl, if_pos (kOf_tuple k'), e1, e2]
          exact .cons h r
        · simp only [List.mem_append] at ha ⊢
          rcases ha with z | z
          · exact .inr z
          · exact .inl (.inr z)
    · rename_i vs0 ds0
      have hc' : F = [] ∨ cntD ds0 (Sum.inr k) ≤ 1 := hc.imp id fun z => by
        unfold cntD at z ⊢
        rw [List.filter_cons, if_neg (by simpa [kOf_tuple] using e)] at z
        exact z
      obtain ⟨G', g1, g2, g3⟩ := All3T.repl h k r hc' n2
      refine ⟨F0 ++ G', ?_, List.nodup_append.mpr ⟨n1, g2, fun a ha b hb => n3 a ha b (g3 b hb)⟩, fun a ha => ?_⟩
      · rw [List.map_cons, List.map_cons, if_neg e, if_neg (by simpa [kOf_tuple] using e)]
        exact .cons h0 g1
      · rw [List.append_assoc]
        rcases List.mem_append.mp ha with z | z
        · exact List.mem_append_left _ z
        · exact List.mem_append_right _ (g3 a z)
theorem All3T.put {R : V → D → List Addr → Prop} {v : V} {d : D} {F : List Addr} (h : R v d F) (k : List Key) {vs : List (List Key × V)} {ds : List (D × D)} {G : List Addr} (r : All3T R vs ds G) (hc : F = [] ∨ cntD ds (Sum.inr k) ≤ 1) (nd : (G ++ F).Nodup) :
    ∃ G', All3T R (putK vs k v) (putD ds (Sum.inr k) (.tuple (k.map keyD)) d) G' ∧ G'.Nodup ∧ ∀ a ∈ G', a ∈ G ++ F := by
  unfold putK putD
  rw [r.any k]
  split
  · exact r.repl h k hc nd
  · exact ⟨G ++ F, r.snocF k h, nd, fun a ha => ha⟩
end
end Mi

/-! Mi18: statements that change owned data. -/
namespace Mi
open PySem PySem.Spec PyProof.Rows L2

section
variable {K : PySem.W.Frag} {fx : Nat} {p : Bool} {te : TE} {m mv mk : M} {i : Nat}
/-! xs.append(e) -/
def mAppend (i : Nat) (m : M) : MB := fun cs => match cs[i]? with
  | some (.ow (.l _) _) => match m cs with
    | some (c, c1) => match c1[i]? with
      | some (.ow (.l s) (.list ds)) => match cellAs s c with
        | some d => if ds.length < LIM then some (.nx (c1.set i (.ow (.l s) (.list (ds ++ [d]))))) else none
        | none => none
      | _ => none
    | none => none
  | _ => none
theorem Sta.lstAt {en : Ent} {cs : List Cell} {σ : L2.St} {J H : Hp} {s : Sh} {d : D} {v : V} (st : Sta K en (.ow (.l s) d :: cs) (some v :: σ) J H) : ∃ a xs, v = .ref a ∧ H a = some (.lst xs) ∧ ∀ ds, d = .list ds → xs.length = ds.length := by
  obtain ⟨_, _, _, _, G, g1, _, _⟩ := st
  cases g1 with
  | ow r _ =>
    obtain ⟨a, xs, ds, G', q1, q2, q3, q4, q5, q6⟩ := r
    exact ⟨a, xs, q1, q3, fun ds' e => by rw [q2] at e; cases e; exact q5.len⟩
theorem Sta.appendOw {en : Ent} {cs : List Cell} {σ : L2.St} {J H : Hp} {s : Sh} {a : Addr} {xs : List V} {ds : List D} {y : V} {e : D} (st : Sta K en (.ow (.l s) (.list ds) :: .ow s e :: cs) (some (.ref a) :: some y :: σ) J H) (ha : H a = some (.lst xs)) :
    Sta K en (.ow (.l s) (.list (ds ++ [e])) :: cs) (some (.ref a) :: σ) J (upd H a (.lst (xs ++ [y]))) := by
  refine st.merge trivial fun F1 F2 h1 h2 nd => ?_
  obtain ⟨a', xs', ds', G, e1, e2, e3, e4, e5, e6⟩ := h1
  cases e1
  cases e2
  rw [ha] at e3
  cases e3
  subst e6
  have hn : a ∉ G ++ F2 := (List.nodup_cons.mp nd).1
  refine ⟨List.mem_cons_self, a :: (G ++ F2), nd, fun b hb => hb, a, xs ++ [y], ds ++ [e], G ++ F2, rfl, rfl, upd_same, e4, ?_, rfl⟩
  refine All3.snocF (e5.imp fun v d F hF r => r.mono (.refl J) (fun b hb => upd_ne fun z => hn (z ▸ List.mem_append_left _ (hF b hb))) fun b hb => (r.at b hb).1) (h2.mono (.refl J) (fun b hb => upd_ne fun z => hn (z ▸ List.mem_append_right _ hb)) fun b hb => (h2.at b hb).1)
theorem b_append (h : E K p te m) : B K fx (tDrop (tBM K "list" rAppend (tVar i) (tCons te tNil))) (mAppend i m) := fun cs fl hm en σ J H s D q => by
  unfold mAppend at hm
  split at hm
  · next s0 d0 h0 =>
    split at hm
    · next c c1 h1 =>
      split at hm
      · next sh ds h2 =>
        split at hm
        · next d h3 =>
          split at hm
          · next hl =>
            cases hm
            obtain ⟨v, e0, s0'⟩ := s.move h0
            obtain ⟨a, xs, rfl, ha, _⟩ := s0'.lstAt
            refine ⟨_, e0, .inl ⟨rfl, xs, .inl (.inl ha)⟩, ?_⟩
            refine h _ _ _ h1 en σ J H s _ fun y J1 H1 s1 x1 _ => ?_
            have s2 := s1.asOw h3
            obtain ⟨v', e1, s3⟩ := Sta.move (i := i + 1) (cs := .ow sh d :: c1) s2 (by simpa using h2)
            simp only [List.getElem?_cons_succ] at e1
            rw [e0] at e1
            cases e1
            obtain ⟨a', xs', e2, ha', hx⟩ := s3.lstAt
            cases e2
            have s4 := Sta.appendOw (cs := c1.set i .un) (by simpa using s3) ha'
            have hi : i < (c1.set i .un).length := by rw [List.length_set]; exact (List.getElem?_eq_some_iff.mp h2).1
            have s5 := s4.set hi
            rw [List.set_set, list_set_self σ i _ e0] at s5
            have := hx _ rfl
            have hL := lim_line
            exact ⟨a, xs', y, rfl, rfl, ha', by omega, q _ J1 _ s5 x1 rfl⟩
          · cases hm
        · cases hm
      · cases hm
    · cases hm
  · cases hm

theorem map_int_inj : ∀ {a b : List Int}, a.map V.int = b.map V.int → a = b
  | [], [], _ => rfl
  | x :: a, y :: b, h => by
    rw [List.map_cons, List.map_cons] at h
    injection h with h1 h2
    injection h1 with h1
    rw [h1, map_int_inj h2]
  | [], _ :: _, h => by simp at h
  | _ :: _, [], h => by simp at h
theorem ixN_lt {n j : Nat} {k : Int} (h : ixN n k = some j) : j < n := by
  unfold ixN at h
  split at h
  · split at h
    · cases h; omega
    · cases h
  · split at h
    · cases h; omega
    · cases h
/-! o[k] = v -/
def storeAs : Sh → D → D → Cell → Option D
  | .l s, .list ds, .int k, cv => match ixN ds.length k, cellAs s cv with
    | some j, some d => some (.list (ds.set j d))
    | _, _ => none
  | .dk s, .dict es, kd, cv => match kOf kd, cellAs s cv with
    | some (.inl k), some d => if es.length < LIM ∧ (s = .fz ∨ cntD es (.inl k) ≤ 1) then some (.dict (putD es (.inl k) kd d)) else none
    | _, _ => none
  | .dt s, .dict es, kd, cv => match kOf kd, cellAs s cv with
    | some (.inr k), some d => if es.length < LIM ∧ (s = .fz ∨ cntD es (.inr k) ≤ 1) then some (.dict (putD es (.inr k) kd d)) else none
    | _, _ => none
  | .pen, .list [.list ns, .int i, .int n], .int k, cv => match cellAs .fz cv with
    | some (.int v) => if k = 1 then some (.list [.list ns, .int v, .int n]) else if k = 2 then some (.list [.list ns, .int i, .int v]) else none
    | _ => none
  | _, _, _, _ => none
def rStore : TSet := fun o i v H Q => rSetL o i v H Q ∨ rSetD o i v H Q
theorem pset_both {X : Cx} (hu : X.A.units + 1 < cLine) : PSet X rStore := fun pins s σ H o i v ov iv u Q I r1 r2 r3 h =>
  h.elim (set_list pins s σ H o i v ov iv u Q I r1 r2 r3) (set_dict hu pins s σ H o i v ov iv u Q I r1 r2 r3)
theorem fz_nil {J H : Hp} {s : Sh} {v : V} {d : D} {F : List Addr} (h : Ow K J H s v d F) (hs : s = .fz) : F = [] := by
  subst hs
  exact h.2
/-- one store into owned data -/
theorem Sta.storeOw {en : Ent} {cs : List Cell} {σ : L2.St} {J H : Hp} {s : Sh} {d0 kd d' : D} {cv : Cell} {x y kv : V} (st : Sta K en (.ow s d0 :: cv :: cs) (some x :: some y :: σ) J H) (rk : Rp K J kv kd) (h : storeAs s d0 kd cv = some d') {Q : Hp → Prop}
    (q : ∀ H', Sta K en (.ow s d' :: cs) (some x :: σ) J H' → Q H') : rStore x kv y H Q := by
  unfold storeAs at h
  split at h
  · next cv sh ds k =>
    split at h
    · next j d hj hc =>
      cases h
      cases rk
      have s1 := Sta.swap (Sta.asOw hc (Sta.swap st))
      obtain ⟨a, xs, rfl, ha, hx⟩ := s1.lstAt
      have hl := hx _ rfl
      have hlt : j < ds.length := ixN_lt hj
      refine .inl ⟨a, xs, k, j, rfl, rfl, ha, by rw [hl]; exact hj, q _ ?_⟩
      refine s1.merge trivial fun F1 F2 h1 h2 nd => ?_
      obtain ⟨a', xs', ds', G, e1, e2, e3, e4, e5, e6⟩ := h1
      cases e1
      cases e2
      rw [ha] at e3
      cases e3
      subst e6
      obtain ⟨hn, nd'⟩ := List.nodup_cons.mp nd
      have m5 : All3 (Ow K J (upd H a (.lst (xs.set j y))) sh) xs ds G := e5.imp fun v d F hF r => r.mono (.refl J) (fun b hb => upd_ne fun z => hn (z ▸ List.mem_append_left _ (hF b hb))) fun b hb => (r.at b hb).1
      have m2 : Ow K J (upd H a (.lst (xs.set j y))) sh y d F2 := h2.mono (.refl J) (fun b hb => upd_ne fun z => hn (z ▸ List.mem_append_right _ hb)) fun b hb => (h2.at b hb).1
      obtain ⟨G', g1, g2, g3⟩ := All3.setF m2 j m5 hlt nd'
      exact ⟨List.mem_cons_self, a :: G', List.nodup_cons.mpr ⟨fun z => hn (g3 a z), g2⟩, fun b hb => (List.mem_cons.mp hb).elim (fun z => z ▸ List.mem_cons_self) fun z => List.mem_cons_of_mem _ (g3 b z), a, _, _, G', rfl, rfl, upd_same, e4, g1, rfl⟩
    · cases h
  · next kd cv sh es =>
    split at h
    · next k d hk hc =>
      split at h
      · next hg =>
        cases h
        have ek := kOf_inl hk
        subst ek
        have ev := rk.keyV
        subst ev
        have s1 := Sta.swap (Sta.asOw hc (Sta.swap st))
        obtain ⟨a, kvs, G0, ex, ha, hx⟩ : ∃ a kvs G, x = .ref a ∧ H a = some (.dK kvs) ∧ kvs.length = es.length := by
          obtain ⟨_, _, _, _, G, g1, _, _⟩ := s1
          cases g1 with
          | ow r _ =>
            obtain ⟨a, xs, ds, G', q1, q2, q3, q4, q5, q6⟩ := r
            cases q2
            exact ⟨a, xs, G, q1, q3, q5.len⟩
        subst ex
        have hL := lim_line
        refine .inr ⟨a, _, rfl, DPut.k ha (by omega), q _ ?_⟩
        refine s1.merge trivial fun F1 F2 h1 h2 nd => ?_
        obtain ⟨a', xs', ds', G, e1, e2, e3, e4, e5, e6⟩ := h1
        cases e1
        cases e2
        rw [ha] at e3
        cases e3
        subst e6
        obtain ⟨hn, nd'⟩ := List.nodup_cons.mp nd
        have m5 : All3K (Ow K J (upd H a (.dK (putK kvs k y))) sh) kvs es G := e5.imp fun v d F hF r => r.mono (.refl J) (fun b hb => upd_ne fun z => hn (z ▸ List.mem_append_left _ (hF b hb))) fun b hb => (r.at b hb).1
        have m2 : Ow K J (upd H a (.dK (putK kvs k y))) sh y d F2 := h2.mono (.refl J) (fun b hb => upd_ne fun z => hn (z ▸ List.mem_append_right _ hb)) fun b hb => (h2.at b hb).1
        obtain ⟨G', g1, g2, g3⟩ := All3K.put m2 k m5 (hg.2.imp (fz_nil h2) id) nd'
        exact ⟨List.mem_cons_self, a :: G', List.nodup_cons.mpr ⟨fun z => hn (g3 a z), g2⟩, fun b hb => (List.mem_cons.mp hb).elim (fun z => z ▸ List.mem_cons_self) fun z => List.mem_cons_of_mem _ (g3 b z), a, _, _, G', rfl, rfl, upd_same, e4, g1, rfl⟩
      · cases h
    · cases h
  · next kd cv sh es =>
    split at h
    · next k d hk hc =>
      split at h
      · next hg =>
        cases h
        have ek := kOf_inr hk
        subst ek
        obtain ⟨b0, rfl, hb0⟩ := rk.keyT
        have s1 := Sta.swap (Sta.asOw hc (Sta.swap st))
        obtain ⟨a, kvs, G0, ex, ha, hx⟩ : ∃ a kvs G, x = .ref a ∧ H a = some (.dT kvs) ∧ kvs.length = es.length := by
          obtain ⟨_, _, _, _, G, g1, _, _⟩ := s1
          cases g1 with
          | ow r _ =>
            obtain ⟨a, xs, ds, G', q1, q2, q3, q4, q5, q6⟩ := r
            cases q2
            exact ⟨a, xs, G, q1, q3, q5.len⟩
        subst ex
        have hL := lim_line
        refine .inr ⟨a, _, rfl, DPut.t ha (st.wf.sub.ts _ _ hb0) (by omega), q _ ?_⟩
        refine s1.merge trivial fun F1 F2 h1 h2 nd => ?_
        obtain ⟨a', xs', ds', G, e1, e2, e3, e4, e5, e6⟩ := h1
        cases e1
        cases e2
        rw [ha] at e3
        cases e3
        subst e6
        obtain ⟨hn, nd'⟩ := List.nodup_cons.mp nd
        have m5 : All3T (Ow K J (upd H a (.dT (putK kvs k y))) sh) kvs es G := e5.imp fun v d F hF r => r.mono (.refl J) (fun b hb => upd_ne fun z => hn (z ▸ List.mem_append_left _ (hF b hb))) fun b hb => (r.at b hb).1
        have m2 : Ow K J (upd H a (.dT (putK kvs k y))) sh y d F2 := h2.mono (.refl J) (fun b hb => upd_ne fun z => hn (z ▸ List.mem_append_right _ hb)) fun b hb => (h2.at b hb).1
        obtain ⟨G', g1, g2, g3⟩ := All3T.put m2 k m5 (hg.2.imp (fz_nil h2) id) nd'
        exact ⟨List.mem_cons_self, a :: G', List.nodup_cons.mpr ⟨fun z => hn (g3 a z), g2⟩, fun b hb => (List.mem_cons.mp hb).elim (fun z => z ▸ List.mem_cons_self) fun z => List.mem_cons_of_mem _ (g3 b z), a, _, _, G', rfl, rfl, upd_same, e4, g1, rfl⟩
      · cases h
    · cases h
  · next cv ns i n k =>
    split at h
    · next v hc =>
      cases rk
      have s1 := Sta.swap (Sta.asOw hc (Sta.swap st))
      have yv : y = .int v := by
        obtain ⟨_, _, _, _, G, g1, _, _⟩ := s1
        cases g1 with
        | ow _ g1 =>
          cases g1 with
          | ow r _ => cases r.1; rfl
      subst yv
      obtain ⟨a, c0, nl, ex, en1, ha, hcl⟩ : ∃ (a c : Addr) (nl : List Int), x = .ref a ∧ ns = nl.map PyData.int ∧ H a = some (.lst [.ref c, .int i, .int n]) ∧ H c = some (.lst (nl.map .int)) := by
        obtain ⟨_, _, _, _, G, g1, _, _⟩ := s1
        cases g1 with
        | ow r _ =>
          obtain ⟨a, c, nl, i', n', q1, q2, q3, q4, _⟩ := r
          cases q2
          exact ⟨a, c, nl, q1, rfl, q3, q4⟩
      subst ex en1
      have fin : ∀ (j : Nat) (i' n' : Int), ixN 3 k = some j → ([V.ref c0, .int i, .int n].set j (.int v)) = [.ref c0, .int i', .int n'] → d' = .list [.list (nl.map .int), .int i', .int n'] → rStore (.ref a) (.int k) (.int v) H Q := fun j i' n' hj el ed => by
        subst ed
        refine .inl ⟨a, _, k, j, rfl, rfl, ha, hj, q _ ?_⟩
        rw [el]
        refine s1.merge trivial fun F1 F2 h1 h2 nd => ?_
        obtain ⟨a', c', nl', i2, n2, q1, q2, q3, q4, q5, q6, q7⟩ := h1
        cases q1
        rw [ha] at q3
        cases q3
        rw [hcl] at q4
        have enl : nl' = nl := by
          have := HO.lst.inj (Option.some.inj q4)
          exact (map_int_inj this).symm
        subst q7
        have hne : c0 ≠ a := fun z => by
          subst z
          rw [ha] at hcl
          exact absurd (congrArg List.length (HO.lst.inj (Option.some.inj hcl))) (fun _ => by
            cases nl with
            | nil => simp at hcl
            | cons x r =>
              have := HO.lst.inj (Option.some.inj hcl)
              simp at this)
        refine ⟨by simp, [a, c0], (List.nodup_append.mp nd).1, fun b hb => List.mem_append_left _ hb, a, c0, nl, i', n', rfl, rfl, upd_same, by rw [upd_ne hne]; exact hcl, q5, q6, rfl⟩
      split at h
      · next hk =>
        subst hk
        cases h
        exact fin 1 v n (by decide) rfl rfl
      · split at h
        · next hk =>
          subst hk
          cases h
          exact fin 2 i v (by decide) rfl rfl
        · cases h
    · cases h
  · cases h
def mStore (i : Nat) (mk mv : M) : MB := fun cs => match mv cs with
  | some (cv, c1) => match c1[i]? with
    | some (.ow _ _) => match mk c1 with
      | some (.fz kd, c2) => match c2[i]? with
        | some (.ow s d) => match storeAs s d kd cv with
          | some d' => some (.nx (c2.set i (.ow s d')))
          | none => none
        | _ => none
      | _ => none
    | _ => none
  | none => none
theorem b_store {tk : TE} (hv : E K p te mv) (hk : E K p tk mk) : B K fx (tAsg te (gSub (tVar i) tk rStore)) (mStore i mk mv) := fun cs fl hm en σ J H s D q => by
  unfold mStore at hm
  split at hm
  · next cv c1 h1 =>
    split at hm
    · next s0 d0 h0 =>
      split at hm
      · next kd c2 h2 =>
        split at hm
        · next sh d h3 =>
          split at hm
          · next d' h4 =>
            cases hm
            refine hv _ _ _ h1 en σ J H s _ fun y J1 H1 s1 x1 _ => ?_
            obtain ⟨en', u1, u2⟩ := s1.under
            obtain ⟨x, e0, _⟩ := u1.move h0
            refine ⟨x, e0, ?_⟩
            refine hk _ _ _ h2 en' σ J1 H1 u1 _ fun kv J2 H2 s2 x2 _ => ?_
            have s3 := u2 _ _ _ _ s2.pop x2
            obtain ⟨x', e1, s4⟩ := Sta.move (i := i + 1) (cs := cv :: c2) s3 (by simpa using h3)
            simp only [List.getElem?_cons_succ] at e1
            rw [e0] at e1
            cases e1
            refine Sta.storeOw (cs := c2.set i .un) (by simpa using s4) s2.headFz h4 fun H' s5 => ?_
            have hi : i < (c2.set i .un).length := by rw [List.length_set]; exact (List.getElem?_eq_some_iff.mp h3).1
            have s6 := s5.set hi
            rw [List.set_set, list_set_self σ i _ e0] at s6
            exact q σ J2 H' s6 (x1.trans x2) rfl
          · cases hm
        · cases hm
      · cases hm
    · cases hm
  · cases hm
end
section
variable {F : Fm} {fx : Nat} {p : Bool} {e k : Expr} {m mv mk : M} {x : Str} {pos px pa : Pos} {apos cpos : Pos}
theorem sx_append (i : Nat) (hN : F.N[i]? = some x) (hv : Vis F.sc x) (h : EX F p e m) (hd : (x == ("__debug__" : Str)) = false := by decide) (hcd : (x == ("__classdict__" : Str)) = false := by decide)
    (hbase : ∀ env, attributeBase (.Name x px) "append" env (eval (.Name x px) env) = eval (.Name x px) env := by intro _; rfl)
    (hfew : ∀ env, ((backTo cpos (starEach [e] env)).all (fun x => !x.1) && (backToKw cpos (keywordEach [] env)).all (fun x => x.1.isSome) && decide ([e].length + ([] : List Keyword).length + (if ([] : List Keyword).isEmpty then 0 else 1) < 30)) = true := by intro _; rfl)
    (hline : (apos.endLine == cpos.line) = true := by rfl) (hs : ∀ env, starEach [e] env = (false, eval e env) :: starEach [] env := by intro _; rfl) (hsw : ∀ env, swapsWith (.Call (.Attribute (.Name x px) "append" apos) [e] [] cpos) none pos.line env = pure false := by intro _; rfl) :
    SX F fx (.Expr (.Call (.Attribute (.Name x px) "append" apos) [e] [] cpos) pos) (mAppend i m) := by
  obtain ⟨t, h1, h2⟩ := h
  refine ⟨_, fun X hX => ?_, b_append h2⟩
  rw [← F.hK X hX]
  exact ps_expr (pe_bm PySem.F.plainAttrs_list PySem.F.slot_list_append PySem.F.type_list_append mt_append (pe_var (i := i) (by rw [F.hN X hX]; exact hN) (by rw [F.hsc X hX]; exact hv) hd hcd) (pa_cons (h1 X hX) pa_nil (hs _)) (hbase _) (hfew _) hline (hs _) rfl) (hsw _)
theorem sx_store (i : Nat) (hN : F.N[i]? = some x) (hv : Vis F.sc x) (hk : EX F p k mk) (h : EX F p e mv) (hd : (x == ("__debug__" : Str)) = false := by decide) (hcd : (x == ("__classdict__" : Str)) = false := by decide)
    (ha : ∀ env v, assign (.Subscript (.Name x px) k pa) env v = (do
      let ov ← holding [v] (eval (.Name x px) env)
      let iv ← holding [v, ov] (eval k env)
      standAt pa
      holding [v, ov, iv] (setItem ov iv v)
      release [v, ov, iv] []) := by intro _ _; rfl)
    (hs : ∀ env, swapsWithSole [.Subscript (.Name x px) k pa] e pos.line env = pure false := by intro _; rfl) (hw : ∀ env, swappedStores [.Subscript (.Name x px) k pa] e env = pure none := by intro _; rfl)
    (h1 : ∀ env, (assignEach [.Subscript (.Name x px) k pa] env).map (·.2) = [assign (.Subscript (.Name x px) k pa) env] := by intro _; rfl) :
    SX F fx (.Assign [.Subscript (.Name x px) k pa] e pos) (mStore i mk mv) := by
  obtain ⟨t, t1, t2⟩ := h
  obtain ⟨u, k1, k2⟩ := hk
  refine ⟨_, fun X hX => ?_, b_store t2 k2⟩
  exact ps_asg (t1 X hX) (pg_sub (pe_var (i := i) (by rw [F.hN X hX]; exact hN) (by rw [F.hsc X hX]; exact hv) hd hcd) (k1 X hX) (pset_both (hu_of (F.room X hX))) (ha _)) (hs _) (hw _) (h1 _)
end
end Mi

/-! Mi19: walks over a dict, which is locked meanwhile: its raw entries, its pairs, its keys. -/
namespace Mi
open PySem PySem.Spec PyProof.Rows L2

section
variable {X : Cx} {pins : List (Addr × Obj)} {σ : L2.St} {J H : Hp} {s : Shared}
theorem valsK_rel {K : PySem.W.Frag} {prog : Program} {w : World} : ∀ {kvs : List (Key × V)} {ds : List (D × D)} {vs : List (Key × Value)} {es : List DictEntry}, RpK K J kvs ds → KV kvs vs → Pairs (mixKind prog w) es vs →
    ∃ ys, Vals ys (es.map (·.val)) ∧ RpAll K J ys (ds.map (·.2))
  | _, _, _, _, .nil, r, q => by
    cases r
    cases q
    exact ⟨[], .nil, .nil⟩
  | _, _, _, _, .cons (v := v) h1 h2, r, q => by
    cases r with
    | cons r1 r2 =>
      cases q with
      | cons q1 q2 q3 =>
        obtain ⟨ys, i1, i2⟩ := valsK_rel h2 r2 q3
        refine ⟨v :: ys, .cons ?_ i1, .cons h1 i2⟩
        show RelV v _
        rw [show (fun x : DictEntry => x.val) _ = _ from q2]
        exact r1.2
theorem valsT_rel {K : PySem.W.Frag} {prog : Program} {w : World} : ∀ {kvs : List (List Key × V)} {ds : List (D × D)} {xs : List (List Key × Addr × Value)} {es : List DictEntry}, RpT K J kvs ds →
    Paired (fun (p : List Key × V) (q : List Key × Addr × Value) => p.1 = q.1 ∧ H q.2.1 = some (.tup (p.1.map kV)) ∧ RelV p.2 q.2.2) kvs xs → es = xs.map (entryOfKey (tupleKind (mixKind prog w))) → ∃ ys, Vals ys (es.map (·.val)) ∧ RpAll K J ys (ds.map (·.2))
  | _, _, _, _, .nil, r, q => by
    cases r
    subst q
    exact ⟨[], .nil, .nil⟩
  | _, _, _, _, .cons (v := v) h1 h2, r, q => by
    cases r with
    | cons r1 r2 =>
      subst q
      obtain ⟨ys, i1, i2⟩ := valsT_rel h2 r2 rfl
      exact ⟨v :: ys, .cons r1.2.2 i1, .cons h1 i2⟩
/-- the raw dict behind frozen data: keys and values -/
theorem Rp.raw2 (I : Inv X pins σ H s) (w : Wf J H) {a : Addr} {ds : List (D × D)} (h : Rp X.K J (.ref a) (.dict ds)) : ∃ (o : Obj) (es : Array DictEntry) (ep : Nat) (ys zs : List V), (a == sysModules) = false ∧ s.heap.get? a = some o ∧ o.ExactDict ∧ o.data = .dict es ep ∧ es.size = ds.length ∧
    es.size ≤ sizeLine ∧ Vals ys (es.toList.map (·.key)) ∧ RpAll X.K J ys (ds.map (·.1)) ∧ Vals zs (es.toList.map (·.val)) ∧ RpAll X.K J zs (ds.map (·.2)) := by
  cases h with
  | dk h hr =>
    obtain ⟨z, hS, vs, rv, o, es, ep, ho, hc, hd, _, hp, _⟩ := (w.sub.rd _ _ h).ok I.hok
    obtain ⟨ys, y1, y2⟩ := keysK_rel hr rv hp
    obtain ⟨zs, z1, z2⟩ := valsK_rel hr rv hp
    have e1 : es.size = ds.length := by
      have := y1.length; have := y2.length
      simp at *
      omega
    have e2 := hr.length
    exact ⟨o, es, ep, ys, zs, hS, ho, hc, hd, e1, by rw [e1, ← e2]; exact z, y1, y2, z1, z2⟩
  | dt h hr =>
    obtain ⟨z, hS, xs, rv, o, es, ep, ho, hc, hd, he, _⟩ := (w.sub.rd _ _ h).ok I.hok
    obtain ⟨ys, y1, y2⟩ := keysT_rel w hr rv he
    obtain ⟨zs, z1, z2⟩ := valsT_rel (prog := X.prog) (w := X.w) hr rv he
    have e1 : es.size = ds.length := by
      have := y1.length; have := y2.length
      simp at *
      omega
    have e2 := hr.length
    exact ⟨o, es, ep, ys, zs, hS, ho, hc, hd, e1, by rw [e1, ← e2]; exact z, y1, y2, z1, z2⟩
end

/-- the pairs of the dict that is locked at d -/
def ItP (d : Addr) (o : Obj) (u : HO) (ys zs : List V) : It :=
  ⟨fun i H => H d = some (.frz o u) ∧ i < ys.length, fun i H x H' => ∃ T k v, ys[i]? = some k ∧ zs[i]? = some v ∧ x = .ref T ∧ H T = none ∧ H' = upd H T (.tup [k, v]), fun i H => H d = some (.frz o u) ∧ ys.length ≤ i⟩
def ItK (d : Addr) (o : Obj) (u : HO) (ys : List V) : It :=
  ⟨fun i H => H d = some (.frz o u) ∧ i < ys.length, fun i H x H' => H' = H ∧ ys[i]? = some x, fun i H => H d = some (.frz o u) ∧ ys.length ≤ i⟩
section
variable {P : Program} {w : World} {K : PySem.W.Frag} {tg : Expr} {d : Addr} {o : Obj} {u : HO} {es : Array DictEntry} {ep : Nat} {ys zs : List V}
theorem frz_get {X : Cx} {pins : List (Addr × Obj)} {σ : L2.St} {H : Hp} {s : Shared} (I : Inv X pins σ H s) (h : H d = some (.frz o u)) : s.heap.get? d = some o := (I.hok d _ h).1
theorem vals_key {es : Array DictEntry} {ys : List V} {i : Nat} {f : DictEntry → Value} (h : Vals ys (es.toList.map f)) (hi : i < ys.length) : ∃ (en : DictEntry) (x : V), es[i]? = some en ∧ ys[i]? = some x ∧ RelV x (f en) := by
  obtain ⟨v, e1, e2⟩ := h.get (List.getElem?_eq_getElem hi)
  rw [List.getElem?_map, Array.getElem?_toList] at e1
  cases he : es[i]? with
  | none => rw [he] at e1; cases e1
  | some en =>
    rw [he] at e1
    cases e1
    exact ⟨en, ys[i], rfl, List.getElem?_eq_getElem hi, e2⟩
theorem turn_P {elts : List Expr} {kk : Nat} {tpos : Pos} (it : Addr) (hx : o.ExactDict) (hod : o.data = .dict es ep) (hy : Vals ys (es.toList.map (·.key))) (hz : Vals zs (es.toList.map (·.val))) :
    Turn P w K (.Tuple elts kk tpos) (ItP d o u ys zs) [it] it (fun i h => ∃ ok ov, IsItemIter h it d i es.size ep ok ov) where
  mem := by simp
  obj := fun i h st b hb => by
    have e : b = it := by simpa using hb
    subst e
    obtain ⟨ok, ov, e⟩ := st
    exact ⟨_, e, fun v z => nomatch z⟩
  keep := fun i h h' ⟨ok, ov, e⟩ k => ⟨ok, ov, k it (by simp) _ e⟩
  item := by
    intro X hP hw hK hc i pins s σ H E I hf st hg
    subst hP hw hK
    obtain ⟨hd, hi⟩ := hg
    have hgd := frz_get I hd
    have hyl := hy.length
    have hzl := hz.length
    simp only [List.length_map, Array.length_toList] at hyl hzl
    obtain ⟨en, x, n1, n2, n3⟩ := vals_key hy hi
    obtain ⟨en', v, m1, m2, m3⟩ := vals_key (i := i) hz (by omega)
    rw [n1] at m1
    cases m1
    obtain ⟨ok, ov, he⟩ := st
    have hlt : it < s.heap.objs.size := Heap.lt_size he
    have hie : i < es.size := by omega
    have een : es[i] = en := by
      rw [Array.getElem?_eq_getElem hie] at n1
      exact Option.some.inj n1
    refine DT.nextI he ⟨o, hgd, hx, hod⟩ hie fun h' ho hT hsz keep => ?_
    rw [een] at ho hT
    refine ⟨_, rfl, wpAny_letOwnedTupleGo_items (s := { s with heap := h' }) ho fun h'' he' sb => ?_⟩
    have hT2 : h''.get? s.heap.objs.size = some { cls := .type "tuple", data := .seq #[en.key, en.val] } := (sb.2 _ (Nat.ne_of_gt hlt)).trans hT
    have new : ObjOk X.prog X.w (upd H s.heap.objs.size (.tup [x, v])) h'' s.heap.objs.size (.tup [x, v]) :=
      ⟨by show 2 ≤ sizeLine; decide, [en.key, en.val], .cons n3 (.cons m3 .nil), ⟨_, hT2, rfl, _, rfl⟩⟩
    have I1 : Inv X pins σ (upd H s.heap.objs.size (.tup [x, v])) { s with heap := h'' } :=
      I.turnedNew (t' := s.toks) (ch := [it]) (fun b ob hb e => (sb.2 b (by simpa using hb)).trans (keep b ob (by simpa using hb) e)) hf (Nat.le_refl _) new
    refine ⟨.ref s.heap.objs.size, _, I1, rfl, ⟨_, x, v, n2, m2, rfl, I.hok.fresh (Nat.le_refl _), rfl⟩, ⟨_, _, he'⟩, fun b hb => ?_⟩
    have e : b = it := by simpa using hb
    rw [e, upd_ne (Nat.ne_of_lt hlt)]
    exact (hf it (by simp)).1
  done := by
    intro X hP hw hK hc i pins s σ H E I hf st hg
    subst hP hw hK
    obtain ⟨hd, hi⟩ := hg
    obtain ⟨f0, f1, f2, f3, f4, f5⟩ := hf it (by simp)
    have hyl := hy.length
    simp only [List.length_map, Array.length_toList] at hyl
    obtain ⟨ok, ov, he⟩ := st
    exact DT.endI (I.ok.hd hc) he ⟨o, frz_get I hd, hx, hod⟩ (by omega) fun h' eb => ⟨rfl, I.turned (t' := s.toks) (fun b ob hb e => eb b ob hb e) f0 f1 f3 f4 f5⟩
  self := fun A i s Q E ⟨_, _, e⟩ h => PySem.W.kcp_self e h
theorem turn_K (it : Addr) (hod : o.data = .dict es ep) (hy : Vals ys (es.toList.map (·.key))) : Turn P w K tg (ItK d o u ys) [it] it (fun i h => h.IsKeyIter it d i es.size ep) where
  mem := by simp
  obj := fun i h st b hb => by
    have e : b = it := by simpa using hb
    subst e
    obtain ⟨oi, e, c, dd⟩ := st
    exact ⟨oi, e, fun v z => by rw [dd] at z; cases z⟩
  keep := fun i h h' st k => st.at fun oi e => k it (by simp) oi e
  item := by
    intro X hP hw hK hc i pins s σ H E I hf st hg
    subst hP hw hK
    obtain ⟨hd, hi⟩ := hg
    obtain ⟨f0, f1, f2, f3, f4, f5⟩ := hf it (by simp)
    obtain ⟨en, x, n1, n2, n3⟩ := vals_key hy hi
    refine next_key_item st (frz_get I hd) hod rfl n1 fun h' st' sb => ?_
    have I1 : Inv X pins σ H { s with heap := h' } := I.turned (t' := s.toks) (fun b ob hb e => (sb.2 b hb).trans e) f0 f1 f3 f4 f5
    obtain ⟨oi, e, c, dd⟩ := id st'
    exact ⟨en.key, rfl, go_of (s := { s with heap := h' }) e c dd (by decide) ⟨x, H, I1, n3, ⟨rfl, n2⟩, st', fun b hb => (hf b hb).1⟩⟩
  done := by
    intro X hP hw hK hc i pins s σ H E I hf st hg
    subst hP hw hK
    obtain ⟨hd, hi⟩ := hg
    obtain ⟨f0, f1, f2, f3, f4, f5⟩ := hf it (by simp)
    have hyl := hy.length
    simp only [List.length_map, Array.length_toList] at hyl
    exact next_key_end (I.ok.hd hc) st (frz_get I hd) hod rfl (by omega) fun h' eb => ⟨rfl, I.turned (t' := s.toks) (fun b ob hb e => eb b ob hb e) f0 f1 f3 f4 f5⟩
  self := fun A i s Q E st h => by
    refine wpAny_pyIter_slot st.typeIs F.slot_dict_keyiterator_iter (wpAny_call_entry F.slot_dict_keyiterator_iter st.typeIs F.entry_dict_keyiterator_iter ?_ (F.args_dict_keyiterator_iter_1 _))
    show wpAny _ _ (ret (.ref it)) _ _ s
    exact wpAny_pure ⟨_, rfl, "dict_keyiterator", _, st.typeIs, F.slot_dict_keyiterator_next.lookup, h⟩
end
/-- the heap H2 is H with the thing at d locked -/
def DU (u : HO) : Prop := (∃ kvs, u = .dK kvs) ∨ ∃ kvs, u = .dT kvs
theorem DU.mut {u : HO} (h : DU u) : Mut (some u) := by
  rcases h with ⟨_, rfl⟩ | ⟨_, rfl⟩ <;> exact True.intro
def Locked (H H2 : Hp) (d : Addr) (o : Obj) (u : HO) : Prop := (H2 = H ∧ H d = some (.frz o u)) ∨ (H d = some u ∧ DU u ∧ H2 = upd H d (.frz o u))
theorem Locked.at {H H2 : Hp} {d : Addr} {o : Obj} {u : HO} (h : Locked H H2 d o u) : H2 d = some (.frz o u) := by
  rcases h with ⟨rfl, h⟩ | ⟨_, _, rfl⟩
  · exact h
  · exact upd_same
/-- a dict's entry in the heap, locked -/
theorem lock_any {X : Cx} {pins : List (Addr × Obj)} {σ : L2.St} {J H : Hp} {s : Shared} (I : Inv X pins σ H s) (w : Wf J H) {a : Addr} {ds : List (D × D)} (h : Rp X.K J (.ref a) (.dict ds)) (o : Obj) (ho : s.heap.get? a = some o) :
    ∃ u H2, Locked H H2 a o u ∧ Inv X pins σ H2 s ∧ ∃ q, J a = some q := by
  have go : ∀ u, DU u → Rd H a u → ∃ H2, Locked H H2 a o u ∧ Inv X pins σ H2 s := fun u mu hr => by
    rcases hr with hr | ⟨o', hr⟩
    · obtain ⟨od, I2⟩ := I.lock hr mu.mut
      have e := frz_get I2 upd_same
      rw [ho] at e
      cases e
      exact ⟨_, .inr ⟨hr, mu, rfl⟩, I2⟩
    · have e := frz_get I hr
      rw [ho] at e
      cases e
      exact ⟨H, .inl ⟨rfl, hr⟩, I⟩
  have there : ∀ u, Rd J a u → ∃ q, J a = some q := fun u hr => hr.elim (fun e => ⟨_, e⟩) fun ⟨o, e⟩ => ⟨_, e⟩
  cases h with
  | @dk _ kvs _ h _ =>
    obtain ⟨H2, l, I2⟩ := go (.dK kvs) (.inl ⟨_, rfl⟩) (w.sub.rd _ _ h)
    exact ⟨_, H2, l, I2, there _ h⟩
  | @dt _ kvs _ h _ =>
    obtain ⟨H2, l, I2⟩ := go (.dT kvs) (.inr ⟨_, rfl⟩) (w.sub.rd _ _ h)
    exact ⟨_, H2, l, I2, there _ h⟩
def iP (K : PySem.W.Frag) (td : TE) : TI := fun σ H R => td σ H fun x H1 => ∃ J d ds, x = .ref d ∧ Wf J H1 ∧ Rp K J (.ref d) (.dict ds) ∧ ∀ o u ys zs H2, Locked H1 H2 d o u → (∃ q, J d = some q) → RpAll K J ys (ds.map (·.1)) → RpAll K J zs (ds.map (·.2)) → R (ItP d o u ys zs) H2
def iK (K : PySem.W.Frag) (td : TE) : TI := fun σ H R => td σ H fun x H1 => ∃ J d ds, x = .ref d ∧ Wf J H1 ∧ Rp K J (.ref d) (.dict ds) ∧ ∀ o u ys H2, Locked H1 H2 d o u → (∃ q, J d = some q) → RpAll K J ys (ds.map (·.1)) → R (ItK d o u ys) H2
section
variable {X : Cx} {tg e : Expr} {td : TE} {apos cpos : Pos}
theorem pi_P {elts : List Expr} {kk : Nat} {tpos : Pos} (he : PE X e td) (hbase : attributeBase e "items" X.env (eval e X.env) = eval e X.env) (hline : (apos.endLine == cpos.line) = true) : PI X (.Tuple elts kk tpos) (.Call (.Attribute e "items" apos) [] [] cpos) (iP X.K td) := by
  refine ⟨fun pins s σ H R I h => ?_⟩
  refine wpAny_Call_method (T := "dict") (id := "dict.items") hbase rfl hline F.plainAttrs_dict F.slot_dict_items F.type_dict_items (thn (he.run pins s σ H _ I h) fun v s1 ⟨x, H1, I1, rx, J, d, ds, ex, w, rp, q⟩ => ?_)
  subst ex
  obtain rfl : v = Value.ref d := rx
  obtain ⟨o, es, ep, ys, zs, hs, ho, hx, hdt, hn, hsz, y1, y2, z1, z2⟩ := rp.raw2 I1 w
  obtain ⟨u, H2, lk, I2, hq⟩ := lock_any I1 w rp o ho
  have raw : DT.Raw s1.heap d es ep := ⟨o, ho, hx, hdt⟩
  refine ⟨raw.typeIs, fun a z => by cases z; exact ⟨o, ho, hx.2.1⟩, ?_⟩
  refine Calls.callWith_builtin rfl (PySem.evalArgs_none (DT.callItems hs raw ?_))
  have I3 : Inv X pins σ H2 { s1 with heap := s1.heap.push { cls := .type "dict_items", data := .fields #[.ref d] } } := I2.kept (t' := s1.toks) fun b ob q => Heap.get?_push_of_some _ q
  refine DT.iterI (s := { s1 with heap := s1.heap.push { cls := .type "dict_items", data := .fields #[.ref d] } }) ⟨_, Heap.get?_push_size _ rfl, rfl, rfl⟩ (raw.push _) ?_
  refine pi_one (s := { s1 with heap := s1.heap.push { cls := .type "dict_items", data := .fields #[.ref d] } }) (tk := s1.toks) I3 _ (turn_P _ hx hdt y1 z1) ⟨.none, .none, ?_⟩ (q o u ys zs H2 lk hq y2 z2)
  exact Heap.get?_push_size _ rfl
theorem pi_K (he : PE X e td) : PI X tg e (iK X.K td) := by
  refine ⟨fun pins s σ H R I h => ?_⟩
  refine thn (he.run pins s σ H _ I h) fun v s1 ⟨x, H1, I1, rx, J, d, ds, ex, w, rp, q⟩ => ?_
  subst ex
  obtain rfl : v = Value.ref d := rx
  obtain ⟨o, es, ep, ys, zs, hs, ho, hx, hdt, hn, hsz, y1, y2, z1, z2⟩ := rp.raw2 I1 w
  obtain ⟨u, H2, lk, I2, hq⟩ := lock_any I1 w rp o ho
  exact iter_keys hs ho hx hdt (pi_one (tk := s1.toks) I2 _ (turn_K _ hdt y1) ⟨_, Heap.get?_push_size _ rfl, rfl, rfl⟩ (q o u ys H2 lk hq y2))
end
end Mi

/-! Mi20: loops and comprehensions over dicts: locked, walked, unlocked. -/
namespace Mi
open PySem PySem.Spec PyProof.Rows L2

section
variable {K : PySem.W.Frag} {J J' H H' H2 : Hp} {en : Ent} {cs cs' : List Cell} {σ : L2.St} {d : Addr} {o : Obj} {u : HO} {Fr : List Addr}
theorem Sta.whole (s : Sta K en cs σ J H) : ∃ Fr, (∀ a ∈ Fr, J a = none ∧ ∃ o, H a = some o ∧ Own1 o) ∧ Sta K ⟨J, H, Fr⟩ cs σ J H ∧ ∀ cs' σ' J' H', Sta K ⟨J, H, Fr⟩ cs' σ' J' H' → Sta K en cs' σ' J' H' := by
  obtain ⟨w, f, th, vw, G, h1, h2, h3⟩ := s
  refine ⟨G, h1.at, ⟨w, fun a u e _ => e, fun a e => e, fun a _ _ e => e, G, h1, h2, fun a ha => .inl ha⟩, fun cs' σ' J' H' s' => ?_⟩
  obtain ⟨w', f', th', vw', G', g1, g2, g3⟩ := s'
  have f' : ∀ a u, H a = some u → a ∉ G → H' a = some u := f'
  have th' : ∀ a, H' a = none → H a = none := th'
  have vw' : ∀ a, H a ≠ none → a ∉ G → J a = none → J' a = none := vw'
  have g3 : ∀ a ∈ G', a ∈ G ∨ H a = none := g3
  refine ⟨w', fun a u e hn => f' a u (f a u e hn) fun z => (h3 a z).elim hn fun z => (by rw [e] at z; cases z), fun a e => th a (th' a e), fun a e hn hj => vw' a (fun z => e (th a z)) (fun z => (h3 a z).elim hn e) (vw a e hn hj), G', g1, g2, fun a ha => ?_⟩
  rcases g3 a ha with z | z
  · exact h3 a z
  · exact .inr (th a z)
theorem lock_u (w : Wf J H) (hd : H d = some u) (du : DU u) {q : HO} (hq : J d = some q) : J d = some u := by
  rcases w.sub.rd d q (.inl hq) with e | ⟨o', e⟩
  · rw [hd] at e; cases e; exact hq
  · rw [hd] at e
    cases e
    rcases du with ⟨_, z⟩ | ⟨_, z⟩ <;> cases z
theorem Sta.lock (s : Sta K ⟨J, H, Fr⟩ cs σ J H) (lk : Locked H H2 d o u) (hq : ∃ q, J d = some q) : Sta K ⟨J, H2, Fr⟩ cs σ J H2 := by
  rcases lk with ⟨rfl, _⟩ | ⟨hd, du, rfl⟩
  · exact s
  · obtain ⟨q, hq⟩ := hq
    obtain ⟨w, f, th, vw, G, h1, h2, h3⟩ := s
    have hJ := lock_u w hd du hq
    refine ⟨⟨⟨fun a v e => ?_, fun a xs e => ?_, fun a xs e => ?_⟩, fun a xs e => ?_, fun a e => ?_⟩, fun a u' e _ => e, fun a e => e, fun a _ _ e => e, G, h1.mono (.refl J) (fun a ha => upd_ne fun z => ?_) (fun a ha => (h1.at a ha).1), h2, fun a ha => ?_⟩
    · by_cases z : a = d
      · subst z
        rcases w.sub.rd a v e with e' | ⟨o', e'⟩
        · rw [hd] at e'; cases e'
          exact .inr ⟨o, upd_same⟩
        · rw [hd] at e'
          cases e'
          rcases du with ⟨_, z⟩ | ⟨_, z⟩ <;> cases z
      · have := w.sub.rd a v e
        unfold Rd at this ⊢
        rw [upd_ne z]
        exact this
    · have e' := w.sub.ls a xs e
      rw [upd_ne fun z => by
        subst z
        rw [hd] at e'; cases e'
        rcases du with ⟨_, z⟩ | ⟨_, z⟩ <;> cases z]
      exact e'
    · have e' := w.sub.ts a xs e
      rw [upd_ne fun z => by
        subst z
        rw [hd] at e'; cases e'
        rcases du with ⟨_, z⟩ | ⟨_, z⟩ <;> cases z]
      exact e'
    · by_cases z : a = d
      · subst z; rw [upd_same] at e; cases e
      · rw [upd_ne z] at e; exact w.tup a xs e
    · skip
      by_cases z : a = d
      · subst z; rw [upd_same] at e; cases e
      · rw [upd_ne z] at e; exact w.dom a e
    · have := (h1.at a ha).1
      rw [z, hJ] at this; cases this
    · rcases h3 a ha with z | z
      · exact .inl z
      · obtain ⟨_, u', e, _⟩ := h1.at a ha
        have z : H a = none := z
        rw [e] at z; cases z
theorem Sta.unlock (s : Sta K ⟨J, upd H d (.frz o u), Fr⟩ cs σ J' H') (w : Wf J H) (hd : H d = some u) (du : DU u) (hq : ∃ q, J d = some q) (hF : ∀ a ∈ Fr, J a = none) (x : Ex J J') :
    H' d = some (.frz o u) ∧ Sta K ⟨J, H, Fr⟩ cs σ J' (upd H' d u) ∧ (Nw J (upd H d (.frz o u)) J' H' → Nw J H J' (upd H' d u)) := by
  obtain ⟨q, hq⟩ := hq
  have hJ := lock_u w hd du hq
  have hJ' := x _ _ hJ
  obtain ⟨w', f, th, vw, G, h1, h2, h3⟩ := s
  have f : ∀ a v, upd H d (.frz o u) a = some v → a ∉ Fr → H' a = some v := f
  have th : ∀ a, H' a = none → upd H d (.frz o u) a = none := th
  have vw : ∀ a, upd H d (.frz o u) a ≠ none → a ∉ Fr → J a = none → J' a = none := vw
  have h3 : ∀ a ∈ G, a ∈ Fr ∨ upd H d (.frz o u) a = none := h3
  have hn : d ∉ Fr := fun z => by
    have := hF d z
    rw [hJ] at this; cases this
  have hH' := f d _ upd_same hn
  have same : ∀ a, H a ≠ none → upd H d (.frz o u) a ≠ none := fun a e => by
    by_cases z : a = d
    · subst z; rw [upd_same]; exact fun z => nomatch z
    · rw [upd_ne z]; exact e
  have wf : Wf J' (upd H' d u) := by
    refine ⟨⟨fun a v e => ?_, fun a xs e => ?_, fun a xs e => ?_⟩, fun a xs e => ?_, fun a e => ?_⟩
    · by_cases z : a = d
      · subst z
        rcases e with e | ⟨o', e⟩
        · rw [hJ'] at e; cases e
          exact .inl upd_same
        · rw [hJ'] at e
          cases e
          rcases du with ⟨_, z⟩ | ⟨_, z⟩ <;> cases z
      · have := w'.sub.rd a v e
        unfold Rd at this ⊢
        rw [upd_ne z]
        exact this
    · have e' := w'.sub.ls a xs e
      rw [upd_ne fun z => by
        subst z
        rw [hH'] at e'; cases e']
      exact e'
    · have e' := w'.sub.ts a xs e
      rw [upd_ne fun z => by
        subst z
        rw [hH'] at e'; cases e']
      exact e'
    · by_cases z : a = d
      · subst z
        rw [upd_same] at e
        cases e
        rcases du with ⟨_, z⟩ | ⟨_, z⟩ <;> cases z
      · rw [upd_ne z] at e; exact w'.tup a xs e
    · by_cases z : a = d
      · subst z; rw [upd_same] at e; cases e
      · rw [upd_ne z] at e; exact w'.dom a e
  refine ⟨hH', ⟨wf, fun a v e hn' => ?_, fun a e => ?_, fun a e hn' hj => vw a (same a e) hn' hj, G, h1.mono (.refl J') (fun a ha => upd_ne fun z => ?_) (fun a ha => (h1.at a ha).1), h2, fun a ha => ?_⟩, fun n => ⟨n.j, fun a v e => ?_, wf, fun a h1 h2 => n.fr a h1 (same a h2)⟩⟩
  · have e : H a = some v := e
    by_cases z : a = d
    · subst z; rw [hd] at e; cases e; exact upd_same
    · rw [upd_ne z]
      exact f a v (by rw [upd_ne z]; exact e) hn'
  · show H a = none
    by_cases z : a = d
    · subst z; rw [upd_same] at e; cases e
    · rw [upd_ne z] at e
      have := th a e
      rw [upd_ne z] at this
      exact this
  · have := (h1.at a ha).1
    rw [z, hJ'] at this; cases this
  · rcases h3 a ha with z | z
    · exact .inl z
    · refine .inr ?_
      show H a = none
      by_cases y : a = d
      · subst y; rw [upd_same] at z; cases z
      · rw [upd_ne y] at z; exact z
  · by_cases z : a = d
    · subst z; rw [hd] at e; cases e; exact upd_same
    · rw [upd_ne z]
      exact n.h a v (by rw [upd_ne z]; exact e)
end

/-! ### what walks a locked thing -/
def IterL (K : PySem.W.Frag) (it : It) (ds : List D) (J : Hp) (L : Hp → Prop) : Prop := ∀ J2 H2, Wf J2 H2 → Ex J J2 → L H2 →
  (∀ i e, ds[i]? = some e → it.go i H2 ∧ ∀ x H3, it.yld i H2 x H3 → ∃ J3, Nw J2 H2 J3 H3 ∧ Rp K J3 x e) ∧ it.stop ds.length H2
def IL (K : PySem.W.Frag) (p : Bool) (wi : TI) (m : MI) : Prop :=
  ∀ cs ds cs', m cs = some (ds, cs') → ∀ en σ J H, Sta K en cs σ J H → ∀ R : It → Hp → Prop,
    (∀ it J' H' H2 d o u, Sta K en cs' σ J' H' → Ex J J' → (p = true → Nw J H J' H') → Locked H' H2 d o u → (∃ q, J' d = some q) → IterL K it ds J' (fun H => H d = some (.frz o u)) → R it H2) → wi σ H R
def ILX (F : Fm) (p : Bool) (tg e : Expr) (m : MI) : Prop := ∃ wi, (∀ X, F.mem X → PI X tg e wi) ∧ IL F.K p wi m
def iItM (me : M) : MI := fun cs => match me cs with
  | some (.fz (.dict es), c1) => some (es.map fun e => .tuple [e.1, e.2], c1)
  | _ => none
def iKyM (me : M) : MI := fun cs => match me cs with
  | some (.fz (.dict es), c1) => some (es.map (·.1), c1)
  | _ => none
section
variable {F : Fm} {p : Bool} {tg e : Expr} {me : M} {apos cpos : Pos}
theorem ilx_keys (h : EX F p e me) : ILX F p tg e (iKyM me) := by
  obtain ⟨te, h1, h2⟩ := h
  refine ⟨iK F.K te, fun X hX => by rw [← F.hK X hX]; exact pi_K (h1 X hX), fun cs ds cs' hm en σ J H s R r => ?_⟩
  unfold iKyM at hm
  split at hm
  · next es c1 h0 =>
    cases hm
    refine h2 _ _ _ h0 en σ J H s _ fun v J1 H1 s1 x1 n1 => ?_
    have rp := s1.headFz
    obtain ⟨d, rfl⟩ : ∃ d, v = .ref d := by cases rp <;> exact ⟨_, rfl⟩
    refine ⟨J1, d, es, rfl, s1.wf, rp, fun o u ys H2 lk hq ry => r _ J1 H1 H2 d o u s1.pop x1 n1 lk hq fun J2 H3 w2 x2 hL => ⟨fun i e he => ⟨⟨hL, ?_⟩, fun x H4 hy => ?_⟩, hL, by rw [ry.length]; exact Nat.le_refl _⟩⟩
    · rw [ry.length]
      exact (List.getElem?_eq_some_iff.mp he).1
    · obtain ⟨rfl, hx⟩ := hy
      obtain ⟨v, e1, e2⟩ := ry.get he
      rw [hx] at e1
      cases e1
      exact ⟨J2, .refl w2, e2.ex x2⟩
  · cases hm
theorem ilx_items {elts : List Expr} {kk : Nat} {tpos : Pos} (h : EX F p e me) (hbase : ∀ env, attributeBase e "items" env (eval e env) = eval e env := by intro _; rfl) (hline : (apos.endLine == cpos.line) = true := by rfl) :
    ILX F p (.Tuple elts kk tpos) (.Call (.Attribute e "items" apos) [] [] cpos) (iItM me) := by
  obtain ⟨te, h1, h2⟩ := h
  refine ⟨iP F.K te, fun X hX => by rw [← F.hK X hX]; exact pi_P (h1 X hX) (hbase _) hline, fun cs ds cs' hm en σ J H s R r => ?_⟩
  unfold iItM at hm
  split at hm
  · next es c1 h0 =>
    cases hm
    refine h2 _ _ _ h0 en σ J H s _ fun v J1 H1 s1 x1 n1 => ?_
    have rp := s1.headFz
    obtain ⟨d, rfl⟩ : ∃ d, v = .ref d := by cases rp <;> exact ⟨_, rfl⟩
    refine ⟨J1, d, es, rfl, s1.wf, rp, fun o u ys zs H2 lk hq ry rz => r _ J1 H1 H2 d o u s1.pop x1 n1 lk hq fun J2 H3 w2 x2 hL => ⟨fun i e he => ⟨⟨hL, ?_⟩, fun x H4 hy => ?_⟩, hL, by rw [ry.length]; simp⟩⟩
    · rw [ry.length]
      have := (List.getElem?_eq_some_iff.mp he).1
      simpa using this
    · obtain ⟨T, k, v, y1, y2, rfl, nT, rfl⟩ := hy
      rw [List.getElem?_map] at he
      cases hp : es[i]? with
      | none => rw [hp] at he; cases he
      | some pr =>
        rw [hp] at he
        cases he
        obtain ⟨k', e1, e2⟩ := ry.get (i := i) (d := pr.1) (by rw [List.getElem?_map, hp]; rfl)
        obtain ⟨v', e3, e4⟩ := rz.get (i := i) (d := pr.2) (by rw [List.getElem?_map, hp]; rfl)
        rw [y1] at e1; cases e1
        rw [y2] at e3; cases e3
        have n := Nw.new (o := .tup [k, v]) w2 nT
        exact ⟨_, n, .tup upd_same (.cons (e2.ex (x2.trans n.j)) (.cons (e4.ex (x2.trans n.j)) .nil))⟩
  · cases hm
end

/-! ### behind the walk: unlocked -/
def tUnl (t : TE) : TE := fun σ H Q => t σ H fun v H' => Q v H' ∨ ∃ d od u, (∀ o' u', H d ≠ some (.frz o' u')) ∧ H' d = some (.frz od u) ∧ Q v (upd H' d u)
def unlE (H : Hp) (D : Ends) : Ends where
  nx := fun σ' H' => D.nx σ' H' ∨ ∃ d od u, (∀ o' u', H d ≠ some (.frz o' u')) ∧ H' d = some (.frz od u) ∧ D.nx σ' (upd H' d u)
  rt := fun v H' => D.rt v H' ∨ ∃ d od u, (∀ o' u', H d ≠ some (.frz o' u')) ∧ H' d = some (.frz od u) ∧ D.rt v (upd H' d u)
  bk := fun σ' H' => D.bk σ' H' ∨ ∃ d od u, (∀ o' u', H d ≠ some (.frz o' u')) ∧ H' d = some (.frz od u) ∧ D.bk σ' (upd H' d u)
  ct := fun σ' H' => D.ct σ' H' ∨ ∃ d od u, (∀ o' u', H d ≠ some (.frz o' u')) ∧ H' d = some (.frz od u) ∧ D.ct σ' (upd H' d u)
def tUnlS (t : TS) : TS := fun D σ H => t (unlE H D) σ H
section
variable {X : Cx}
theorem not_locked {pins : List (Addr × Obj)} {σ : L2.St} {H : Hp} {s : Shared} {d : Addr} (I : Inv X pins σ H s) (h : ∀ o' u', H d ≠ some (.frz o' u')) : ∀ o' u', X.H_0 d ≠ some (.frz o' u') := fun o' u' e => h o' u' (I.base.frzs d o' u' e)
theorem pe_unl {e : Expr} {t : TE} (h : PE X e t) : PE X e (tUnl t) := ⟨fun pins s σ H Q I hw => thn (h.run pins s σ H _ I hw) fun v s1 ⟨x, H1, I1, r1, q⟩ => by
  rcases q with q | ⟨d, od, u, hn, hd, q⟩
  · exact ⟨x, H1, I1, r1, q⟩
  · exact ⟨x, _, I1.unlock hd (not_locked I hn), r1, q⟩⟩
theorem ps_unl {st : Stmt} {t : TS} (h : PS X st t) : PS X st (tUnlS t) := ⟨fun pins s σ H D I hw => thn (h.run pins s σ H _ I hw) fun f s1 q => by
  match f, q with
  | .next, ⟨σ', H', I1, q⟩ =>
    rcases q with q | ⟨d, od, u, hn, hd, q⟩
    · exact ⟨σ', H', I1, q⟩
    · exact ⟨σ', _, I1.unlock hd (not_locked I hn), q⟩
  | .brk, ⟨σ', H', I1, q⟩ =>
    rcases q with q | ⟨d, od, u, hn, hd, q⟩
    · exact ⟨σ', H', I1, q⟩
    · exact ⟨σ', _, I1.unlock hd (not_locked I hn), q⟩
  | .cont, ⟨σ', H', I1, q⟩ =>
    rcases q with q | ⟨d, od, u, hn, hd, q⟩
    · exact ⟨σ', H', I1, q⟩
    · exact ⟨σ', _, I1.unlock hd (not_locked I hn), q⟩
  | .ret v, ⟨x, σ', H', I1, r, q⟩ =>
    rcases q with q | ⟨d, od, u, hn, hd, q⟩
    · exact ⟨x, σ', H', I1, r, q⟩
    · exact ⟨x, σ', _, I1.unlock hd (not_locked I hn), r, q⟩⟩
end
section
variable {K : PySem.W.Frag} {en : Ent} {σ : L2.St} {p : Bool} {vs : List Nat} {g : TG} {tt : TT} {te : TE} {mg : MG} {mt : MT} {me : M} {fx : Nat} {t : TS} {b : MB}
theorem lc_core {it : It} {ds ysF : List D} {cs1 csF : List Cell} {J1 H1 : Hp} {L : Hp → Prop} (hL : ∀ cs σ J H, Sta K en cs σ J H → L H) (s1 : Sta K en cs1 σ J1 H1) (hl : ds.length ≤ LIM) (h2 : lcGo vs mg mt me ds cs1 = some (ysF, csF)) (hit : IterL K it ds J1 L)
    (hg : G K vs g mg) (ht : T K p tt mt) (he : E K p te me) (Q : VK)
    (q : ∀ v J' H', Sta K en (.ow (.l .fz) (.list ysF) :: restC cs1 (wipeC csF vs) vs) (some v :: σ) J' H' → Ex J1 J' → (p = true → Nw J1 H1 J' H') → (p = true → ∀ s d F, Cell.ow (.l .fz) (.list ysF) = .ow s d → Ow K J' H' s v d F → ∀ a ∈ F, H1 a = none) → Q v H') :
    tLc (fun _ H R => R it H) g tt te vs σ H1 Q := by
  intro Da hD
  have nD := Nw.own (o := .lst []) s1.wf hD fun _ z => nomatch z
  have sD : Sta K en (.ow (.l .fz) (.list []) :: wipeC cs1 vs) (some (.ref Da) :: wipe σ vs) J1 (upd H1 Da (.lst [])) :=
    (s1.wipeAll vs).pushOw nD (G := [Da]) ⟨Da, [], [], [], rfl, rfl, upd_same, s1.wf.dom Da hD, .nil, rfl⟩ (by simp) (fun b hb => by simp at hb; subst hb; exact hD)
  refine ⟨fun i m H2 => m = ds.length - i ∧ i ≤ ds.length ∧ ∃ J2 acc csi ys, Sta K en (.ow (.l .fz) (.list acc) :: wipeC csi vs) (some (.ref Da) :: wipe σ vs) J2 H2 ∧ Ex J1 J2 ∧ (p = true → Nw J1 H1 J2 H2) ∧ acc.length ≤ i ∧ lcGo vs mg mt me (ds.drop i) csi = some (ys, csF) ∧ acc ++ ys = ysF,
    ⟨ds.length, by simp, Nat.zero_le _, J1, [], cs1, ysF, sD, .refl J1, fun _ => nD, Nat.le_refl _, by simpa using h2, rfl⟩, fun i m H2 hW => ?_⟩
  obtain ⟨rfl, hil, J2, acc, csi, ys, s2, x2, n2, hacc, hgo, hys⟩ := hW
  obtain ⟨it1, it2⟩ := hit J2 H2 s2.wf x2 (hL _ _ _ _ s2)
  by_cases hlt : i < ds.length
  · obtain ⟨go, yl⟩ := it1 i ds[i] (List.getElem?_eq_getElem hlt)
    refine .inr ⟨go, fun H3 => ∃ J3 acc' csi' ys', Sta K en (.ow (.l .fz) (.list acc') :: wipeC csi' vs) (some (.ref Da) :: wipe σ vs) J3 H3 ∧ Ex J1 J3 ∧ (p = true → Nw J1 H1 J3 H3) ∧ acc'.length ≤ i + 1 ∧ lcGo vs mg mt me (ds.drop (i + 1)) csi' = some (ys', csF) ∧ acc' ++ ys' = ysF,
      fun H3 hN => ⟨ds.length - (i + 1), by omega, rfl, hlt, hN⟩, fun x H3 hy => ?_⟩
    obtain ⟨J3, n3, r3⟩ := yl x H3 hy
    have s3 := s2.nw n3
    rw [List.drop_eq_getElem_cons hlt] at hgo
    unfold lcGo at hgo
    split at hgo
    · next c1 e1 =>
      obtain ⟨en', u1, u2⟩ := s3.under
      refine hg _ _ _ e1 en' (wipe σ vs) J3 H3 x u1 r3 _ fun σ2 s4 hw => ⟨?_, ?_⟩
      · have : wipe (wipe σ vs) vs = wipe σ vs := by
          refine List.ext_getElem? fun j => ?_
          by_cases hj : j ∈ vs
          · by_cases hjl : j < σ.length
            · have z : ∀ (l : List Nat) (ρ : L2.St), j ∈ l → j < ρ.length → (wipe ρ l)[j]? = some none := by
                intro l
                induction l with
                | nil => intro _ h; cases h
                | cons w l ih =>
                  intro ρ h hr
                  show ((wipe ρ l).set w none)[j]? = some none
                  by_cases hw : w = j
                  · subst hw
                    rw [List.getElem?_set_self (by rw [wipe_length]; exact hr)]
                  · rw [List.getElem?_set_ne hw]
                    rcases List.mem_cons.mp h with e | e
                    · exact absurd e.symm hw
                    · exact ih ρ e hr
              rw [z vs _ hj (by rw [wipe_length]; exact hjl), z vs σ hj hjl]
            · rw [List.getElem?_eq_none (by rw [wipe_length, wipe_length]; omega), List.getElem?_eq_none (by rw [wipe_length]; omega)]
          · exact wipe_get _ vs hj
        rw [hw, this]
      · have hl2 : ∀ ρ, wipe ρ vs = wipe (wipe σ vs) vs → wipe ρ vs = wipe σ vs := fun ρ h => by
          rw [h]
          refine List.ext_getElem? fun j => ?_
          by_cases hj : j ∈ vs
          · by_cases hjl : j < σ.length
            · have z : ∀ (l : List Nat) (ρ : L2.St), j ∈ l → j < ρ.length → (wipe ρ l)[j]? = some none := by
                intro l
                induction l with
                | nil => intro _ h; cases h
                | cons w l ih =>
                  intro ρ h hr
                  show ((wipe ρ l).set w none)[j]? = some none
                  by_cases hw : w = j
                  · subst hw
                    rw [List.getElem?_set_self (by rw [wipe_length]; exact hr)]
                  · rw [List.getElem?_set_ne hw]
                    rcases List.mem_cons.mp h with e | e
                    · exact absurd e.symm hw
                    · exact ih ρ e hr
              rw [z vs _ hj (by rw [wipe_length]; exact hjl), z vs σ hj hjl]
            · rw [List.getElem?_eq_none (by rw [wipe_length, wipe_length]; omega), List.getElem?_eq_none (by rw [wipe_length]; omega)]
          · exact wipe_get _ vs hj
        have hw2 := hl2 σ2 hw
        have n23 : p = true → Nw J1 H1 J3 H3 := Nw.and n2 fun _ => n3
        split at hgo
        · next c2 e2 =>
          split at hgo
          · next y c3 e3 =>
            split at hgo
            · next ys' c4 e4 =>
              cases hgo
              refine ht _ _ _ e2 en' σ2 J3 H3 s4 _ fun J4 H4 s5 x5 n5 => ?_
              rw [if_pos rfl]
              refine he _ _ _ e3 en' σ2 J4 H4 s5 _ fun yv J5 H5 s6 x6 n6 => ?_
              have s7 := u2 _ _ _ _ (s6.pop.wipeAll vs) (x5.trans x6)
              rw [hw2] at s7
              have top : ∃ xs, H5 Da = some (.lst xs) ∧ xs.length = acc.length := by
                obtain ⟨_, _, _, _, G, g1, _, _⟩ := id s7
                cases g1 with
                | ow r _ =>
                  obtain ⟨a', xs', ds', G', q1, q2, q3, q4, q5, q6⟩ := r
                  cases q1
                  cases q2
                  exact ⟨xs', q3, (q5.all (J := J5) fun v d F _ h => h.1).length⟩
              obtain ⟨xs, hxs, hlx⟩ := top
              have hLIM := lim_line
              refine ⟨xs, hxs, by omega, J5, acc ++ [y], c3, ys', s7.appendTop hxs s6.headFz, ((x2.trans n3.j).trans x5).trans x6, fun hp => ?_, by simp; omega, e4, by simpa using hys⟩
              have nn := Nw.and (Nw.and n23 n5) n6 hp
              exact ⟨nn.j, fun a o e => by rw [upd_ne fun z => by rw [z, hD] at e; cases e]; exact nn.h a o e, (s7.appendTop hxs s6.headFz).wf, nn.fr⟩
            · cases hgo
          · cases hgo
        · next c2 e2 =>
          refine ht _ _ _ e2 en' σ2 J3 H3 s4 _ fun J4 H4 s5 x5 n5 => ?_
          rw [if_neg Bool.false_ne_true]
          have s7 := u2 _ _ _ _ (s5.wipeAll vs) x5
          rw [hw2] at s7
          exact ⟨J4, acc, c2, ys, s7, (x2.trans n3.j).trans x5, Nw.and n23 n5, by omega, hgo, hys⟩
        · cases hgo
    · cases hgo
  · have e : i = ds.length := by omega
    subst e
    rw [List.drop_length] at hgo
    cases hgo
    rw [List.append_nil] at hys
    subst hys
    refine .inl ⟨it2, ?_⟩
    obtain ⟨en', u1, u2⟩ := s2.under
    have s3 := u2 _ _ _ _ (u1.restAll (o := cs1) (σ := σ) (fun j d hj => by
      obtain ⟨x, h3, h4⟩ := s1.getFz hj
      exact ⟨x, h3, h4.ex x2⟩) s1.len) (.refl J2)
    refine q _ J2 H2 s3 x2 n2 fun hp s d F ec ho a ha => ?_
    cases ec
    obtain ⟨a', xs', ds', G', q1, q2, q3, q4, q5, q6⟩ := ho
    cases q1
    subst q6
    rcases List.mem_cons.mp ha with z | z
    · rw [z]; exact hD
    · exact (q5.mem (P := fun _ => False) (fun v d F h b hb => by rw [h.2] at hb; cases hb) a z).elim

theorem for_core {it : It} {ds : List D} {cs1 : List Cell} {fl : Fl} {J1 H1 : Hp} {L : Hp → Prop} (hL : ∀ cs σ J H, Sta K en cs σ J H → L H) (hv : ∀ v ∈ vs, fx ≤ v) (s1 : Sta K en cs1 σ J1 H1) (hm : forGo mg b ds cs1 = some fl) (hit : IterL K it ds J1 L)
    (hg : G K vs g mg) (hb : B K fx t b) (D : Ends) (q : Ended K fx en σ J1 D fl) : tFor (fun _ H R => R it H) g t D σ H1 := by
  refine ⟨fun i m σ' H2 => m = ds.length - i ∧ i ≤ ds.length ∧ ∃ J2 csi, Sta K en csi σ' J2 H2 ∧ Ex J1 J2 ∧ σ'.take fx = σ.take fx ∧ forGo mg b (ds.drop i) csi = some fl,
    ⟨ds.length, by simp, Nat.zero_le _, J1, cs1, s1, .refl J1, rfl, by simpa using hm⟩, fun i m σ' H2 hW => ?_⟩
  obtain ⟨rfl, hil, J2, csi, s2, x2, ef, hgo⟩ := hW
  obtain ⟨it1, it2⟩ := hit J2 H2 s2.wf x2 (hL _ _ _ _ s2)
  by_cases hlt : i < ds.length
  · obtain ⟨go, yl⟩ := it1 i ds[i] (List.getElem?_eq_getElem hlt)
    refine .inr ⟨go, fun σ3 H3 => ∃ J3 csj, Sta K en csj σ3 J3 H3 ∧ Ex J1 J3 ∧ σ3.take fx = σ.take fx ∧ forGo mg b (ds.drop (i + 1)) csj = some fl,
      fun σ3 H3 hN => ⟨ds.length - (i + 1), by omega, rfl, hlt, hN⟩, fun x H3 hy => ?_⟩
    obtain ⟨J3, n3, r3⟩ := yl x H3 hy
    have s3 := s2.nw n3
    rw [List.drop_eq_getElem_cons hlt] at hgo
    unfold forGo at hgo
    split at hgo
    · next c1 e1 =>
      refine hg _ _ _ e1 en σ' J3 H3 x s3 r3 _ fun σ4 s4 w4 => ?_
      have e4 : σ4.take fx = σ.take fx := (take_of_wipe hv w4).trans ef
      split at hgo
      · next c2 e2 => exact hb _ _ e2 en σ4 J3 H3 s4 _ fun σ5 J5 H5 s5 x5 e5 => ⟨J5, c2, s5, (x2.trans n3.j).trans x5, e5.trans e4, hgo⟩
      · next c2 e2 => exact hb _ _ e2 en σ4 J3 H3 s4 _ fun σ5 J5 H5 s5 x5 e5 => ⟨J5, c2, s5, (x2.trans n3.j).trans x5, e5.trans e4, hgo⟩
      · next c2 e2 =>
        cases hgo
        exact hb _ _ e2 en σ4 J3 H3 s4 _ fun σ5 J5 H5 s5 x5 e5 => q σ5 J5 H5 s5 ((x2.trans n3.j).trans x5) (e5.trans e4)
      · next c c2 e2 =>
        cases hgo
        exact hb _ _ e2 en σ4 J3 H3 s4 _ fun v σ5 J5 H5 s5 x5 e5 => q v σ5 J5 H5 s5 ((x2.trans n3.j).trans x5) (e5.trans e4)
      · cases hgo
    · cases hgo
  · have e : i = ds.length := by omega
    subst e
    rw [List.drop_length] at hgo
    cases hgo
    exact .inl ⟨it2, q σ' J2 H2 s2 x2 ef⟩

end
end Mi

/-! Mi21: loops and comprehensions over dicts in the text. -/
namespace Mi
open PySem PySem.Spec PyProof.Rows L2

section
variable {K : PySem.W.Frag} {p : Bool} {vs : List Nat} {wi : TI} {g : TG} {tt : TT} {te : TE} {mi : MI} {mg : MG} {mt : MT} {me : M} {fx : Nat} {t : TS} {b : MB}
theorem lcD_run (hi : IL K p wi mi) (hg : G K vs g mg) (ht : T K p tt mt) (he : E K p te me) : EO K p (tUnl (tLc wi g tt te vs)) (mLcO vs mi mg mt me) := fun cs c cs' hm en σ J H s Q q => by
  unfold mLcO at hm
  split at hm
  · next ds cs1 h1 =>
    split at hm
    · next hl =>
      split at hm
      · next ysF csF h2 =>
        cases hm
        obtain ⟨Fr, f0, s0, c0⟩ := s.whole
        refine hi _ _ _ h1 _ σ J H s0 _ fun it J1 H1 H2 d o u s1 x1 n1 lk hq hit => ?_
        obtain ⟨Fr1, f1, s2, c1⟩ := s1.whole
        have s3 := s2.lock lk hq
        have dF : d ∉ Fr1 := fun z => by
          obtain ⟨q', hq⟩ := hq
          have := (f1 d z).1
          rw [hq] at this; cases this
        show tLc (fun _ H R => R it H) g tt te vs σ H2 (fun v H' => Q v H' ∨ ∃ d od u, (∀ o' u', H d ≠ some (.frz o' u')) ∧ H' d = some (.frz od u) ∧ Q v (upd H' d u))
        refine lc_core (L := fun H => H d = some (.frz o u)) (fun cs σ J H st => st.fr d _ lk.at dF) s3 hl h2 hit hg ht he _ fun v J' H' s4 x4 n4 f4 => ?_
        rcases lk with ⟨rfl, _⟩ | ⟨hd, du, rfl⟩
        · exact .inl (q v J' H' (c0 _ _ _ _ (c1 _ _ _ _ s4)) (x1.trans x4) (Nw.and n1 n4) fun hp s d F ec ho a ha => (n1 hp).h.back (f4 hp s d F ec ho a ha))
        · obtain ⟨e1, s5, n5⟩ := s4.unlock s2.wf hd du hq (fun a ha => (f1 a ha).1) x4
          refine .inr ⟨d, o, u, fun o' u' e => ?_, e1, q v J' _ (c0 _ _ _ _ (c1 _ _ _ _ s5)) (x1.trans x4) (Nw.and n1 fun hp => n5 (n4 hp)) fun hp s d' F ec ho a ha => ?_⟩
          · have hn : d ∉ Fr := fun z => by
              obtain ⟨_, o2, e2, ow⟩ := f0 d z
              rw [e] at e2; cases e2
              exact ow
            have := s1.fr d _ e hn
            rw [hd] at this
            cases this
            rcases du with ⟨_, z⟩ | ⟨_, z⟩ <;> cases z
          · have hJd : J' d ≠ none := by
              obtain ⟨q', hq⟩ := hq
              rw [x4 _ _ hq]; exact fun z => nomatch z
            have hne : a ≠ d := fun z => hJd (z ▸ (ho.at a ha).1)
            have hF : ∀ b ∈ F, b ≠ d := fun b hb z => hJd (z ▸ (ho.at b hb).1)
            have ho' : Ow K J' H' s v d' F := ho.mono (.refl J') (fun b hb => (upd_ne (hF b hb)).symm) fun b hb => (ho.at b hb).1
            have := f4 hp s d' F ec ho' a ha
            rw [upd_ne hne] at this
            exact (n1 hp).h.back this
      · cases hm
    · cases hm
  · cases hm
theorem bD_for (hv : ∀ v ∈ vs, fx ≤ v) (hi : IL K p wi mi) (hg : G K vs g mg) (hb : B K fx t b) : B K fx (tUnlS (tFor wi g t)) (mFor mi mg b) := fun cs fl hm en σ J H s D q => by
  unfold mFor at hm
  split at hm
  · next ds cs1 h1 =>
    obtain ⟨Fr, f0, s0, c0⟩ := s.whole
    refine hi _ _ _ h1 _ σ J H s0 _ fun it J1 H1 H2 d o u s1 x1 n1 lk hq hit => ?_
    obtain ⟨Fr1, f1, s2, c1⟩ := s1.whole
    have s3 := s2.lock lk hq
    have dF : d ∉ Fr1 := fun z => by
      obtain ⟨q', hq⟩ := hq
      have := (f1 d z).1
      rw [hq] at this; cases this
    refine for_core (L := fun H => H d = some (.frz o u)) (fun cs σ J H st => st.fr d _ lk.at dF) hv s3 hm hit hg hb _ ?_
    rcases lk with ⟨rfl, _⟩ | ⟨hd, du, rfl⟩
    · cases fl with
      | nx cs' => exact fun σ' J' H' s4 x4 e4 => .inl (q σ' J' H' (c0 _ _ _ _ (c1 _ _ _ _ s4)) (x1.trans x4) e4)
      | bk cs' => exact fun σ' J' H' s4 x4 e4 => .inl (q σ' J' H' (c0 _ _ _ _ (c1 _ _ _ _ s4)) (x1.trans x4) e4)
      | ct cs' => exact fun σ' J' H' s4 x4 e4 => .inl (q σ' J' H' (c0 _ _ _ _ (c1 _ _ _ _ s4)) (x1.trans x4) e4)
      | rt c cs' => exact fun v σ' J' H' s4 x4 e4 => .inl (q v σ' J' H' (c0 _ _ _ _ (c1 _ _ _ _ s4)) (x1.trans x4) e4)
    · have hn : ∀ o' u', H d ≠ some (.frz o' u') := fun o' u' e => by
        have hn : d ∉ Fr := fun z => by
          obtain ⟨_, o2, e2, ow⟩ := f0 d z
          rw [e] at e2; cases e2
          exact ow
        have := s1.fr d _ e hn
        rw [hd] at this
        cases this
        rcases du with ⟨_, z⟩ | ⟨_, z⟩ <;> cases z
      cases fl with
      | nx cs' =>
        intro σ' J' H' s4 x4 e4
        obtain ⟨e1, s5, _⟩ := s4.unlock s2.wf hd du hq (fun a ha => (f1 a ha).1) x4
        exact .inr ⟨d, o, u, hn, e1, q σ' J' _ (c0 _ _ _ _ (c1 _ _ _ _ s5)) (x1.trans x4) e4⟩
      | bk cs' =>
        intro σ' J' H' s4 x4 e4
        obtain ⟨e1, s5, _⟩ := s4.unlock s2.wf hd du hq (fun a ha => (f1 a ha).1) x4
        exact .inr ⟨d, o, u, hn, e1, q σ' J' _ (c0 _ _ _ _ (c1 _ _ _ _ s5)) (x1.trans x4) e4⟩
      | ct cs' =>
        intro σ' J' H' s4 x4 e4
        obtain ⟨e1, s5, _⟩ := s4.unlock s2.wf hd du hq (fun a ha => (f1 a ha).1) x4
        exact .inr ⟨d, o, u, hn, e1, q σ' J' _ (c0 _ _ _ _ (c1 _ _ _ _ s5)) (x1.trans x4) e4⟩
      | rt c cs' =>
        intro v σ' J' H' s4 x4 e4
        obtain ⟨e1, s5, _⟩ := s4.unlock s2.wf hd du hq (fun a ha => (f1 a ha).1) x4
        exact .inr ⟨d, o, u, hn, e1, q v σ' J' _ (c0 _ _ _ _ (c1 _ _ _ _ s5)) (x1.trans x4) e4⟩
  · cases hm
end
section
variable {F : Fm} {p : Bool} {fx : Nat} {elt tg iter : Expr} {ifs : List Expr} {scope : Scope} {own : List (Str × Nat)} {pos lp py : Pos} {mi : MI} {mg : MG} {mt : MT} {me : M} {A1 : List Stmt} {b : MB}
theorem lcD_both (hi : ILX F p tg iter mi) (ok : blkC F.N F.sc scope own = true) (hg : GX (F.blk scope) (own.map (·.2)) tg mg) (ht : TsX (F.blk scope) p ifs mt) (he : EX (F.blk scope) p elt me) (hs : ∀ env x, foldedSetIterable iter env x = pure x) :
    ∃ te, (∀ X, F.mem X → PE X (.ListComp elt [⟨tg, iter, ifs, 0⟩] scope pos) te) ∧ EO F.K p te (mLcO (own.map (·.2)) mi mg mt me) := by
  obtain ⟨wi, i1, i2⟩ := hi
  obtain ⟨g, g1, g2⟩ := hg
  obtain ⟨tt, t1, t2⟩ := ht
  obtain ⟨te, e1, e2⟩ := he
  refine ⟨tUnl (tLc wi g tt te (own.map (·.2))), fun X hX => pe_unl ?_, lcD_run i2 g2 t2 e2⟩
  have mem : ∀ (s : Shared) (H : Hp) (C : Addr) (cl : List (Str × Addr)) (fp : List Addr), (F.blk scope).mem (X.blk s H scope (compEnvC scope cl C X.env) fp) := fun s H C cl fp => ⟨X, s, H, C, cl, fp, hX, rfl⟩
  exact pe_lc (F.calm X hX) (by rw [F.hN X hX]; exact F.nd) (i1 X hX) (blkOk_by (by rw [F.hN X hX, F.hsc X hX]; exact ok)) (fun s H C cl fp => g1 _ (mem s H C cl fp)) (fun s H C cl fp => t1 _ (mem s H C cl fp)) (fun s H C cl fp => e1 _ (mem s H C cl fp)) (hs _)
theorem ex_lcDO (hi : ILX F p tg iter mi) (ok : blkC F.N F.sc scope own = true) (hg : GX (F.blk scope) (own.map (·.2)) tg mg) (ht : TsX (F.blk scope) p ifs mt) (he : EX (F.blk scope) p elt me) (hs : ∀ env x, foldedSetIterable iter env x = pure x := by intro _ _; rfl) :
    EX F p (.ListComp elt [⟨tg, iter, ifs, 0⟩] scope pos) (mLcO (own.map (·.2)) mi mg mt me) := let ⟨te, h1, h2⟩ := lcD_both hi ok hg ht he hs; ⟨te, h1, h2.e⟩
theorem ex_lcD (hi : ILX F p tg iter mi) (ok : blkC F.N F.sc scope own = true) (hg : GX (F.blk scope) (own.map (·.2)) tg mg) (ht : TsX (F.blk scope) p ifs mt) (he : EX (F.blk scope) p elt me) (hs : ∀ env x, foldedSetIterable iter env x = pure x := by intro _ _; rfl) :
    EX F p (.ListComp elt [⟨tg, iter, ifs, 0⟩] scope pos) (mFrzP (mLcO (own.map (·.2)) mi mg mt me)) := let ⟨te, h1, h2⟩ := lcD_both hi ok hg ht he hs; ⟨te, h1, h2.frz⟩
theorem lcDs_both (i : Nat) {y : Str} (hy : F.N[i]? = some y) (hyl : F.sc.names.lookup y = some .local) (hk : F.sc.kind = .function) (hli : (py.line == lp.line) = true) (hno : (scope.names.any fun (n, k) => n == y && (k == .local || k == .cell)) = false)
    (hi : ILX F p tg iter mi) (ok : blkC F.N F.sc scope own = true) (hg : GX (F.blk scope) (own.map (·.2)) tg mg) (ht : TsX (F.blk scope) p ifs mt) (he : EX (F.blk scope) p elt me) (hs : ∀ env x, foldedSetIterable iter env x = pure x) :
    ∃ te : TE, (∀ X, F.mem X → PS X (.Assign [.Name y py] (.ListComp elt [⟨tg, iter, ifs, 0⟩] scope lp) pos) (tUnlS (tAsg te (gName i)))) ∧ EO F.K p (tUnl te) (mLcO (own.map (·.2)) mi mg mt me) := by
  obtain ⟨wi, i1, i2⟩ := hi
  obtain ⟨g, g1, g2⟩ := hg
  obtain ⟨tt, t1, t2⟩ := ht
  obtain ⟨te, e1, e2⟩ := he
  refine ⟨tLc wi g tt te (own.map (·.2)), fun X hX => ps_unl ?_, lcD_run i2 g2 t2 e2⟩
  have mem : ∀ (s : Shared) (H : Hp) (C : Addr) (cl : List (Str × Addr)) (fp : List Addr), (F.blk scope).mem (X.blk s H scope (compEnvC scope cl C X.env) fp) := fun s H C cl fp => ⟨X, s, H, C, cl, fp, hX, rfl⟩
  exact ps_setLc (F.calm X hX) (by rw [F.hN X hX]; exact F.nd) (by rw [F.hN X hX]; exact hy) (by rw [F.hsc X hX]; exact hyl) (sw_true (by rw [F.hsc X hX]; exact hk) (by rw [F.hsc X hX]; exact hyl) hli hno) (i1 X hX) (blkOk_by (by rw [F.hN X hX, F.hsc X hX]; exact ok)) (fun s H C cl fp => g1 _ (mem s H C cl fp)) (fun s H C cl fp => t1 _ (mem s H C cl fp)) (fun s H C cl fp => e1 _ (mem s H C cl fp)) (hs _)
theorem b_setU {K : PySem.W.Frag} {te : TE} {m : M} {i : Nat} (hf : fx ≤ i) (h : E K p (tUnl te) m) : B K fx (tUnlS (tAsg te (gName i))) (mSet i m) := fun cs fl hm en σ J H s D q => b_set (p := p) hf h cs fl hm en σ J H s D q
theorem sx_lcDO (i : Nat) {y : Str} (hy : F.N[i]? = some y) (hyl : F.sc.names.lookup y = some .local) (hk : F.sc.kind = .function) (hli : (py.line == lp.line) = true) (hno : (scope.names.any fun (n, k) => n == y && (k == .local || k == .cell)) = false) (hl : fx ≤ i)
    (hi : ILX F p tg iter mi) (ok : blkC F.N F.sc scope own = true) (hg : GX (F.blk scope) (own.map (·.2)) tg mg) (ht : TsX (F.blk scope) p ifs mt) (he : EX (F.blk scope) p elt me) (hs : ∀ env x, foldedSetIterable iter env x = pure x := by intro _ _; rfl) :
    SX F fx (.Assign [.Name y py] (.ListComp elt [⟨tg, iter, ifs, 0⟩] scope lp) pos) (mSet i (mLcO (own.map (·.2)) mi mg mt me)) := let ⟨te, h1, h2⟩ := lcDs_both i hy hyl hk hli hno hi ok hg ht he hs; ⟨_, h1, b_setU hl h2.e⟩
theorem sx_lcD (i : Nat) {y : Str} (hy : F.N[i]? = some y) (hyl : F.sc.names.lookup y = some .local) (hk : F.sc.kind = .function) (hli : (py.line == lp.line) = true) (hno : (scope.names.any fun (n, k) => n == y && (k == .local || k == .cell)) = false) (hl : fx ≤ i)
    (hi : ILX F p tg iter mi) (ok : blkC F.N F.sc scope own = true) (hg : GX (F.blk scope) (own.map (·.2)) tg mg) (ht : TsX (F.blk scope) p ifs mt) (he : EX (F.blk scope) p elt me) (hs : ∀ env x, foldedSetIterable iter env x = pure x := by intro _ _; rfl) :
    SX F fx (.Assign [.Name y py] (.ListComp elt [⟨tg, iter, ifs, 0⟩] scope lp) pos) (mSet i (mFrzP (mLcO (own.map (·.2)) mi mg mt me))) := let ⟨te, h1, h2⟩ := lcDs_both i hy hyl hk hli hno hi ok hg ht he hs; ⟨_, h1, b_setU hl h2.frz⟩
theorem sx_forD {vs : List Nat} (hv : ∀ v ∈ vs, fx ≤ v) (hi : ILX F p tg iter mi) (hg : GX F vs tg mg) (hb : SsX F fx A1 b) (hs : ∀ env x, foldedSetIterable iter env x = pure x := by intro _ _; rfl) : SX F fx (.For tg iter A1 [] pos) (mFor mi mg b) :=
  let ⟨wi, i1, i2⟩ := hi
  let ⟨g, g1, g2⟩ := hg
  let ⟨t, t1, t2⟩ := hb
  ⟨tUnlS (tFor wi g t), fun X hX => ps_unl (ps_for (by rw [F.xe X hX]; exact PassesOwn.never) (F.calm X hX) (i1 X hX) (g1 X hX) (t1 X hX) (hs _)), bD_for hv i2 g2 t2⟩
end

/-! ### a name's owned data, from here on frozen -/
def mFrzV (i : Nat) : M := fun cs => match cs[i]? with
  | some (.ow _ d) => some (.fz d, cs.set i (.fz d))
  | some (.fz d) => some (.fz d, cs)
  | _ => none
theorem ex_frzV {F : Fm} (i : Nat) {x : Str} {pos : Pos} (hN : F.N[i]? = some x) (hv : Vis F.sc x) (hd : (x == ("__debug__" : Str)) = false := by decide) (hcd : (x == ("__classdict__" : Str)) = false := by decide) : EX F false (.Name x pos) (mFrzV i) :=
  ⟨tVar i, fun X hX => pe_var (by rw [F.hN X hX]; exact hN) (by rw [F.hsc X hX]; exact hv) hd hcd, fun cs c cs' hm en σ J H s Q q => by
    unfold mFrzV at hm
    split at hm
    · next sh d he =>
      cases hm
      obtain ⟨v, h1, h2⟩ := s.move he
      obtain ⟨J2, x2, h3⟩ := h2.freeze
      have r := h3.headFz
      have hi : i < (cs.set i .un).length := by rw [List.length_set]; exact (List.getElem?_eq_some_iff.mp he).1
      have h4 := h3.setFz hi
      rw [List.set_set, list_set_self σ i _ h1] at h4
      exact ⟨v, h1, q v J2 H (h4.pushFz r) x2 fun z => nomatch z⟩
    · next d he =>
      cases hm
      obtain ⟨v, h1, h2⟩ := s.getFz he
      exact ⟨v, h1, q v J H (s.pushFz h2) (.refl J) fun z => nomatch z⟩
    · cases hm⟩
end Mi

/-! Mi22: setdefault(..).append, reading through an owned container, the pen. -/
namespace Mi
open PySem PySem.Spec PyProof.Rows L2

/-! ### setdefault of a dict with tuple keys -/
section
variable {X : Cx} {pins : List (Addr × Obj)} {σ : L2.St} {H : Hp} {s : Shared} {a b : Addr} {r : Value} {d : V} {k : List Key} {A : Around} {E : Value → Shared → Prop}
theorem sd_tup {kvs : List (List Key × V)} {Q : Value → Shared → Prop} (hu : A.units + 1 < cLine) (I : Inv X pins σ H s) (e : H a = some (.dT kvs)) (eb : H b = some (.tup (k.map kV))) (rd : RelV d r) (hl : kvs.length < sizeLine)
    (h1 : ∀ v, valV kvs k = some v → ∀ (w' : Value) (s' : Shared), Inv X pins σ H s' → RelV v w' → Q w' s') (h2 : valV kvs k = none → ∀ (w' : Value) (s' : Shared), Inv X pins σ (upd H a (.dT (putK kvs k d))) s' → RelV d w' → Q w' s') :
    wpAny (model X.prog X.w) A (call (.builtin "dict.setdefault") [.ref a, .ref b, r]) Q E s := by
  obtain ⟨z, hd, xs, rel, dd⟩ := dt_of I.hok e
  have hz : xs.length ≤ sizeLine := by rw [← Paired.length rel]; exact z
  have hl2 : (putK kvs k d).length ≤ sizeLine := by have := length_putK kvs k d; omega
  refine call_setdefault_heap (hsz := hz) (tupleKind_room_in1 hu) (key_of I.hok eb) hd dd (fun p hp => ?_) fun hn h' dd' hs => ?_
  · have q := rel.val k
    rw [hp] at q
    cases q0 : valV kvs k with
    | none => rw [q0] at q; exact (show False from q).elim
    | some v0 =>
      rw [q0] at q
      exact h1 v0 q0 _ _ (I.tok _) q
  · have q := rel.val k
    rw [hn] at q
    cases q0 : valV kvs k with
    | some v0 => rw [q0] at q; exact (show False from q).elim
    | none =>
      obtain ⟨ob, es, ep, hq, g2, g3, g4, _, g5⟩ := dd'
      refine h2 q0 _ _ (d_write I (by rw [e]; exact True.intro) hs ⟨ob, hq⟩ ⟨hl2, hd, _, (rel.put k eb rd).keeps fun c ys ec => ?_, ob, es, ep, hq, g2, g3, g4, g5⟩) rd
      rw [upd_ne (ne_of ec e (fun z => nomatch z))]
      exact ec
end
def tSdT (td ty tx : TE) : TE := fun σ H Q => td σ H fun x H1 => ∃ a, x = .ref a ∧ IsD H1 a ∧ ty σ H1 fun y H2 => tx σ H2 fun z H3 => ∃ (kvs : List (List Key × V)) (k : List Key) (b : Addr), H3 a = some (.dT kvs) ∧ y = .ref b ∧ H3 b = some (.tup (k.map kV)) ∧ kvs.length < sizeLine ∧
  (∀ v, valV kvs k = some v → Q v H3) ∧ (valV kvs k = none → Q z (upd H3 a (.dT (putK kvs k z))))
section
variable {X : Cx} {o e f : Expr} {td ty tx : TE} {apos cpos : Pos}
theorem pe_sdT (hu : X.A.units + 1 < cLine) (ho : PE X o td) (he : PE X e ty) (hf : PE X f tx) (m : M2 X o "setdefault" apos e f cpos) : PE X (.Call (.Attribute o "setdefault" apos) [e, f] [] cpos) (tSdT td ty tx) := by
  refine ⟨fun pins s σ H Q I h => ?_⟩
  refine wpAny_Call_method m.base m.few m.line PySem.F.plainAttrs_dict PySem.F.slot_dict_setdefault PySem.F.type_dict_setdefault (thn (ho.run pins s σ H _ I h) fun u s1 ⟨x, H1, I1, rx, a, ex, d, q1⟩ => ?_)
  subst ex
  obtain rfl : u = Value.ref a := rx
  obtain ⟨t1, t2, _⟩ := isD_at I1 d
  refine ⟨t1, t2, ?_⟩
  rw [m.trees]
  refine Calls.callWith_builtin rfl (Calls.evalArgs_plain (Calls.spliced_cons (thn (he.run pins s1 σ H1 _ I1 q1) fun kv s2 ⟨y, H2, I2, ry, q2⟩ => ?_)))
  refine Calls.spliced_cons (thn (hf.run pins s2 σ H2 _ I2 q2) fun fv s3 ⟨z, H3, I3, rz, kvs, k, b, e1, ey, e2, hl, g1, g2⟩ => Calls.spliced_nil ?_)
  subst ey
  obtain rfl : kv = Value.ref b := ry
  exact sd_tup hu I3 e1 e2 rz hl (fun v hv w' s' I' r' => ⟨v, H3, I', r', g1 v hv⟩) fun hn w' s' I' r' => ⟨z, _, I', r', g2 hn⟩
end
def appD : D → D → D
  | .list ds, x => .list (ds ++ [x])
  | d, _ => d
def appAt (es : List (D × D)) (q : KK) (x : D) : List (D × D) := es.map fun e => if kOf e.1 = some q then (e.1, appD e.2 x) else e
section
variable {K : PySem.W.Frag} {J H : Hp}
theorem All3T.appendAt {k : List Key} : ∀ {kvs : List (List Key × V)} {es : List (D × D)} {G : List Addr} {v : V}, All3T (Ow K J H (.l .fz)) kvs es G → G.Nodup → valV kvs k = some v → cntD es (.inr k) ≤ 1 →
    ∃ l zs ds, v = .ref l ∧ H l = some (.lst zs) ∧ l ∈ G ∧ findD es (.inr k) = some (.list ds) ∧ zs.length = ds.length ∧ ∀ y x, Rp K J y x → All3T (Ow K J (upd H l (.lst (zs ++ [y]))) (.l .fz)) kvs (appAt es (.inr k) x) G
  | _, _, _, _, .nil, _, hv, _ => by cases hv
  | _, _, _, v, .cons (k := k') (v := v0) (F := F0) (G := G0) h0 r, nd, hv, hc => by
    rename_i vs0 ds0
    obtain ⟨n1, n2, n3⟩ := List.nodup_append.mp nd
    by_cases e : k' = k
    · subst e
      rw [valV_pos rfl] at hv
      cases hv
      obtain ⟨l, zs, ds, G', q1, q2, q3, q4, q5, q6⟩ := h0
      have hl : l ∈ F0 := by rw [q6]; exact List.mem_cons_self
      refine ⟨l, zs, ds, q1, q3, List.mem_append_left _ hl, ?_, q5.len, fun y x rp => ?_⟩
      · unfold findD
        rw [if_pos (kOf_tuple k'), q2]
      · have none : ∀ p ∈ ds0, ¬ kOf p.1 = some (.inr k') := fun p hp hk => by
          unfold cntD at hc
          rw [List.filter_cons, if_pos (by simpa using kOf_tuple k'), List.length_cons] at hc
          have : p ∈ ds0.filter fun e => decide (kOf e.1 = some (.inr k')) := List.mem_filter.mpr ⟨hp, by simpa using hk⟩
          have := List.length_pos_of_mem this
          omega
        have e1 : appAt ds0 (.inr k') x = ds0 := (List.map_congr_left fun p hp => if_neg (none p hp)).trans (List.map_id' _)
        have e2 : appAt ((.tuple (k'.map keyD), PyData.list ds) :: ds0) (.inr k') x = (.tuple (k'.map keyD), .list (ds ++ [x])) :: ds0 := by
          have : appAt ((.tuple (k'.map keyD), PyData.list ds) :: ds0) (.inr k') x = (if kOf (PyData.tuple (k'.map keyD)) = some (.inr k') then (.tuple (k'.map keyD), appD (.list ds) x) else (.tuple (k'.map keyD), .list ds)) :: appAt ds0 (.inr k') x := rfl
          rw [this, e1, if_pos (kOf_tuple k')]
          rfl
        rw [q2, e2]
        have hG' : ∀ b ∈ G', False := fun b hb => q5.mem (P := fun _ => False) (fun v d F h b hb => by rw [h.2] at hb; cases hb) b hb
        refine .cons ⟨l, zs ++ [y], ds ++ [x], G', q1, rfl, upd_same, q4, ?_, q6⟩ (r.imp fun v d F hF h => h.mono (.refl J) (fun b hb => upd_ne fun z => n3 l hl b (hF b hb) z.symm) fun b hb => (h.at b hb).1)
        have q : All3 (Ow K J (upd H l (.lst (zs ++ [y]))) .fz) zs ds G' := q5.imp fun v d F _ h => h
        exact q.snoc ⟨rp, rfl⟩
    · rw [valV_neg e] at hv
      have hc' : cntD ds0 (.inr k) ≤ 1 := by
        unfold cntD at hc ⊢
        rw [List.filter_cons, if_neg (by simpa [kOf_tuple] using e)] at hc
        exact hc
      obtain ⟨l, zs, ds, q1, q2, q3, q4, q5, q6⟩ := All3T.appendAt r n2 hv hc'
      refine ⟨l, zs, ds, q1, q2, List.mem_append_right _ q3, ?_, q5, fun y x rp => ?_⟩
      · unfold findD
        rw [if_neg (by rw [kOf_tuple]; simpa using e)]
        exact q4
      · have e2 : ∀ d, appAt ((.tuple (k'.map keyD), d) :: ds0) (.inr k) x = (.tuple (k'.map keyD), d) :: appAt ds0 (.inr k) x := fun d => by
          show (if kOf (PyData.tuple (k'.map keyD)) = some (.inr k) then _ else _) :: _ = _
          rw [if_neg (by rw [kOf_tuple]; simpa using e)]
          rfl
        rw [e2]
        exact .cons (h0.mono (.refl J) (fun b hb => upd_ne fun z => n3 b hb l q3 z) fun b hb => (h0.at b hb).1) (q6 y x rp)
end
def sdBase (es : List (D × D)) (q : KK) (kd : D) : List (D × D) := if (findD es q).isSome = true then es else es ++ [(kd, .list [])]
def lenOk : Option D → Bool
  | some (.list ds) => decide (ds.length < LIM)
  | _ => true
def mSdApp (i : Nat) (mk mx : M) : MB := fun cs => match cs[i]? with
  | some (.ow (.dt (.l .fz)) _) => match mk cs with
    | some (.fz kd, c1) => match c1[i]? with
      | some (.ow (.dt (.l .fz)) (.dict es)) => match kOf kd with
        | some (.inr k) => match mx (c1.set i .un) with
          | some (.fz x, c2) => if es.length < LIM ∧ cntD (sdBase es (.inr k) kd) (.inr k) ≤ 1 ∧ lenOk (findD es (.inr k)) = true ∧ i < c2.length then some (.nx (c2.set i (.ow (.dt (.l .fz)) (.dict (appAt (sdBase es (.inr k) kd) (.inr k) x))))) else none
          | _ => none
        | _ => none
      | _ => none
    | _ => none
  | _ => none
section
variable {K : PySem.W.Frag} {fx : Nat} {p : Bool} {tk te : TE} {mk mx : M} {i : Nat}
theorem findD_snoc {k : List Key} (v : D) : ∀ {l : List (D × D)}, findD l (.inr k) = none → findD (l ++ [(PyData.tuple (k.map keyD), v)]) (.inr k) = some v
  | [], _ => by
    show (if kOf (PyData.tuple (k.map keyD)) = some (.inr k) then _ else _) = _
    rw [if_pos (kOf_tuple k)]
  | e :: l, h => by
    unfold findD at h
    rw [List.cons_append]
    unfold findD
    split at h
    · cases h
    · next z => rw [if_neg z]; exact findD_snoc v h
theorem Sta.dtAt {en : Ent} {cs : List Cell} {σ : L2.St} {J H : Hp} {s : Sh} {d : D} {v : V} (st : Sta K en (.ow (.dt s) d :: cs) (some v :: σ) J H) : ∃ a kvs, v = .ref a ∧ H a = some (.dT kvs) ∧ ∀ es, d = .dict es → kvs.length = es.length := by
  obtain ⟨_, _, _, _, G, g1, _, _⟩ := st
  cases g1 with
  | ow r _ =>
    obtain ⟨a, xs, ds, G', q1, q2, q3, q4, q5, q6⟩ := r
    exact ⟨a, xs, q1, q3, fun ds' e => by rw [q2] at e; cases e; exact q5.len⟩
theorem All3T.look {R : V → D → List Addr → Prop} {k : List Key} : ∀ {kvs : List (List Key × V)} {es : List (D × D)} {G : List Addr}, All3T R kvs es G → (valV kvs k).isSome = (findD es (.inr k)).isSome
  | _, _, _, .nil => rfl
  | _, _, _, .cons (k := k') h r => by
    unfold findD
    by_cases e : k' = k
    · subst e
      rw [if_pos (kOf_tuple _), valV_pos rfl]
      rfl
    · rw [if_neg (by rw [kOf_tuple]; simpa using e), valV_neg e]
      exact All3T.look r
/-- the list at a key grows -/
theorem Sta.sdFinal {en : Ent} {cs : List Cell} {σ : L2.St} {J H : Hp} {a : Addr} {kvs : List (List Key × V)} {es : List (D × D)} {k : List Key} {v : V} (st : Sta K en (.ow (.dt (.l .fz)) (.dict es) :: cs) (some (.ref a) :: σ) J H) (ha : H a = some (.dT kvs)) (hv : valV kvs k = some v) (hc : cntD es (.inr k) ≤ 1) :
    ∃ l zs ds, v = .ref l ∧ H l = some (.lst zs) ∧ findD es (.inr k) = some (.list ds) ∧ zs.length = ds.length ∧ ∀ y x, Rp K J y x → Sta K en (.ow (.dt (.l .fz)) (.dict (appAt es (.inr k) x)) :: cs) (some (.ref a) :: σ) J (upd H l (.lst (zs ++ [y]))) := by
  obtain ⟨_, _, _, _, G0, g1, g2, _⟩ := id st
  cases g1 with
  | @ow _ _ _ F _ _ G1 r hs =>
    obtain ⟨a', kvs', ds', G, q1, q2, q3, q4, q5, q6⟩ := r
    cases q1
    cases q2
    rw [ha] at q3
    cases q3
    subst q6
    have nd := (List.nodup_append.mp g2).1
    obtain ⟨hn, nd'⟩ := List.nodup_cons.mp nd
    obtain ⟨l, zs, ds, e1, e2, e3, e4, e5, e6⟩ := q5.appendAt nd' hv hc
    refine ⟨l, zs, ds, e1, e2, e4, e5, fun y x rp => st.rewrite trivial fun F' hF => ?_⟩
    have hne : a ≠ l := fun z => hn (z ▸ e3)
    have e7 := hF.uniq (⟨a, kvs, es, G, rfl, rfl, ha, q4, q5, rfl⟩ : Ow K J H (.dt (.l .fz)) (.ref a) (.dict es) (a :: G))
    subst e7
    exact ⟨List.mem_cons_of_mem _ e3, a, kvs, _, G, rfl, rfl, by rw [upd_ne hne]; exact ha, q4, e6 y x rp, rfl⟩
theorem b_sdApp (hk : E K p tk mk) (hx : E K true te mx) : B K fx (tDrop (tBM K "list" rAppend (tSdT (tVar i) tk (tLst tNil)) (tCons te tNil))) (mSdApp i mk mx) := fun cs fl hm en σ J H s D q => by
  unfold mSdApp at hm
  split at hm
  · next d0 h0 =>
    split at hm
    · next kd c1 h1 =>
      split at hm
      · next es h3 =>
        split at hm
        · next k h4 =>
          split at hm
          · next x c2 h2 =>
            split at hm
            · next hg =>
              cases hm
              obtain ⟨g1, g2, g3, g4⟩ := hg
              have hL := lim_line
              obtain ⟨v, e0, s0⟩ := s.move h0
              obtain ⟨a, kvs0, rfl, ha0, _⟩ := s0.dtAt
              refine ⟨.ref a, e0, a, rfl, .inr ⟨kvs0, .inl ha0⟩, ?_⟩
              refine hk _ _ _ h1 en σ J H s _ fun y J1 H1 s1 x1 _ => ?_
              have rk := s1.headFz
              have ek := kOf_inr h4
              subst ek
              obtain ⟨b, rfl, hb⟩ := rk.keyT
              obtain ⟨v', e1, s2⟩ := s1.pop.move h3
              rw [e0] at e1
              cases e1
              obtain ⟨a', kvs, ea, ha, hlen⟩ := s2.dtAt
              cases ea
              have hlen := hlen _ rfl
              refine ⟨Nat.zero_le _, fun pp hp => ?_⟩
              have nD := Nw.own (o := .lst []) s1.wf hp fun _ z => nomatch z
              have hap : a ≠ pp := ne_of_none ha hp
              have ha3 : upd H1 pp (.lst []) a = some (.dT kvs) := by rw [upd_ne hap]; exact ha
              have hb1 := s1.wf.sub.ts _ _ hb
              have hi : i < (c1.set i .un).length := by rw [List.length_set]; exact (List.getElem?_eq_some_iff.mp h3).1
              have look : (valV kvs k).isSome = (findD es (.inr k)).isSome := by
                obtain ⟨_, _, _, _, _, z1, _, _⟩ := id s2
                cases z1 with
                | ow r _ =>
                  obtain ⟨a', kvs', ds', G, q1, q2, q3, q4, q5, q6⟩ := r
                  cases q1
                  cases q2
                  rw [ha] at q3
                  cases q3
                  exact q5.look
              -- what comes behind the setdefault: the list's value w
              have fin : ∀ (H3 : Hp) (kvs3 : List (List Key × V)) (w : V), Sta K en (.ow (.dt (.l .fz)) (.dict (sdBase es (.inr k) (.tuple (k.map keyD)))) :: c1.set i .un) (some (.ref a) :: σ) J1 H3 → H3 a = some (.dT kvs3) → valV kvs3 k = some w →
                  tyV K "list" w H3 ∧ tCons te tNil σ H3 fun xs H2 => rAppend w xs H2 fun _ H1 => D.nx σ H1 := fun H3 kvs3 w s3 ha3 hw => by
                obtain ⟨l, zs, ds, ew, hl, _, _, _⟩ := s3.sdFinal ha3 hw g2
                subst ew
                refine ⟨.inl ⟨rfl, zs, .inl (.inl hl)⟩, ?_⟩
                obtain ⟨en', u1, u2⟩ := s3.under
                refine hx _ _ _ h2 en' σ J1 H3 u1 _ fun y J4 H4 s4 x4 n4 => ?_
                have n4 := n4 rfl
                have s5 := u2 _ _ _ _ s4.pop x4
                obtain ⟨l', zs', ds, ew, hl', hf, hz, fi⟩ := s5.sdFinal (n4.h a _ ha3) hw g2
                cases ew
                have el := n4.h l _ hl
                rw [hl'] at el
                cases el
                have s6 := (fi y x s4.headFz).set g4
                rw [list_set_self σ i _ e0] at s6
                have zl : zs.length < sizeLine := by
                  unfold sdBase at hf
                  split at hf
                  · rw [hf] at g3
                    unfold lenOk at g3
                    have : ds.length < LIM := by simpa using g3
                    omega
                  · next hn =>
                    have hn : findD es (.inr k) = none := by
                      cases z : findD es (.inr k) with
                      | none => rfl
                      | some _ => rw [z] at hn; exact (hn rfl).elim
                    rw [findD_snoc _ hn] at hf
                    cases hf
                    rw [hz]
                    decide
                exact ⟨l, zs, y, rfl, rfl, hl', zl, q σ J4 _ s6 (x1.trans x4) rfl⟩
              refine ⟨kvs, k, b, ha3, rfl, by rw [upd_ne (ne_of_none hb1 hp)]; exact hb1, by omega, fun w hw => ?_, fun hn => ?_⟩
              · have hs : sdBase es (.inr k) (.tuple (k.map keyD)) = es := by
                  unfold sdBase
                  rw [if_pos (by rw [← look, hw]; rfl)]
                exact fin _ kvs w (by rw [hs]; exact s2.nw nD) ha3 hw
              · have hs : sdBase es (.inr k) (.tuple (k.map keyD)) = es ++ [(.tuple (k.map keyD), .list [])] := by
                  unfold sdBase
                  rw [if_neg (by rw [← look, hn]; exact Bool.false_ne_true)]
                have s3 := Sta.swap (s2.pushOw nD (s := .l .fz) (d := .list []) (v := .ref pp) (G := [pp]) ⟨pp, [], [], [], rfl, rfl, upd_same, s1.wf.dom pp hp, .nil, rfl⟩ (by simp) (fun b hb => by simp at hb; subst hb; exact hp))
                have s4 : Sta K en (.ow (.dt (.l .fz)) (.dict (es ++ [(.tuple (k.map keyD), .list [])])) :: c1.set i .un) (some (.ref a) :: σ) J1 (upd (upd H1 pp (.lst [])) a (.dT (putK kvs k (.ref pp)))) := by
                  refine s3.merge trivial fun F1 F2 h1 h2 nd => ?_
                  obtain ⟨a', kvs', ds', G, q1, q2, q3, q4, q5, q6⟩ := h1
                  cases q1
                  cases q2
                  rw [ha3] at q3
                  cases q3
                  subst q6
                  have hn' : a ∉ G ++ F2 := (List.nodup_cons.mp nd).1
                  refine ⟨List.mem_cons_self, a :: (G ++ F2), nd, fun b hb => hb, a, _, _, G ++ F2, rfl, rfl, upd_same, q4, ?_, rfl⟩
                  rw [putK_new _ hn]
                  exact All3T.snocF k (q5.imp fun v d F hF r => r.mono (.refl J1) (fun b hb => upd_ne fun z => hn' (z ▸ List.mem_append_left _ (hF b hb))) fun b hb => (r.at b hb).1) (h2.mono (.refl J1) (fun b hb => upd_ne fun z => hn' (z ▸ List.mem_append_right _ hb)) fun b hb => (h2.at b hb).1)
                refine fin _ (putK kvs k (.ref pp)) (.ref pp) (by rw [hs]; exact s4) upd_same ?_
                rw [putK_new _ hn, valV_snoc _ _ _ _ hn, if_pos rfl]
            · cases hm
          · cases hm
        · cases hm
      · cases hm
    · cases hm
  · cases hm
end
section
variable {F : Fm} {fx : Nat} {p : Bool} {e k : Expr} {mx mk : M} {x : Str} {pos px pl : Pos} {apos cpos apos2 cpos2 : Pos}
theorem sx_sdApp (i : Nat) (hN : F.N[i]? = some x) (hv : Vis F.sc x) (hk : EX F p k mk) (h : EX F true e mx) (hd : (x == ("__debug__" : Str)) = false := by decide) (hcd : (x == ("__classdict__" : Str)) = false := by decide)
    (hm : ∀ X : Cx, M2 X (.Name x px) "setdefault" apos2 k (.List [] pl) cpos2 := by intro _; exact ⟨rfl, rfl, rfl, rfl⟩)
    (hbase : ∀ env, attributeBase (.Call (.Attribute (.Name x px) "setdefault" apos2) [k, .List [] pl] [] cpos2) "append" env (eval (.Call (.Attribute (.Name x px) "setdefault" apos2) [k, .List [] pl] [] cpos2) env) = eval (.Call (.Attribute (.Name x px) "setdefault" apos2) [k, .List [] pl] [] cpos2) env := by intro _; rfl)
    (hfew : ∀ env, ((backTo cpos (starEach [e] env)).all (fun x => !x.1) && (backToKw cpos (keywordEach [] env)).all (fun x => x.1.isSome) && decide ([e].length + ([] : List Keyword).length + (if ([] : List Keyword).isEmpty then 0 else 1) < 30)) = true := by intro _; rfl)
    (hline : (apos.endLine == cpos.line) = true := by rfl) (hs : ∀ env, starEach [e] env = (false, eval e env) :: starEach [] env := by intro _; rfl)
    (hsw : ∀ env, swapsWith (.Call (.Attribute (.Call (.Attribute (.Name x px) "setdefault" apos2) [k, .List [] pl] [] cpos2) "append" apos) [e] [] cpos) none pos.line env = pure false := by intro _; rfl) :
    SX F fx (.Expr (.Call (.Attribute (.Call (.Attribute (.Name x px) "setdefault" apos2) [k, .List [] pl] [] cpos2) "append" apos) [e] [] cpos) pos) (mSdApp i mk mx) := by
  obtain ⟨t, h1, h2⟩ := h
  obtain ⟨u, k1, k2⟩ := hk
  refine ⟨_, fun X hX => ?_, b_sdApp k2 h2⟩
  rw [← F.hK X hX]
  exact ps_expr (pe_bm PySem.F.plainAttrs_list PySem.F.slot_list_append PySem.F.type_list_append mt_append (pe_sdT (hu_of (F.room X hX)) (pe_var (i := i) (by rw [F.hN X hX]; exact hN) (by rw [F.hsc X hX]; exact hv) hd hcd) (k1 X hX) (pe_lst pa_nil) (hm X)) (pa_cons (h1 X hX) pa_nil (hs _)) (hbase _) (hfew _) hline (hs _) rfl) (hsw _)
end
end Mi

/-! Mi23: reading through an owned container; the pen is laid. -/
namespace Mi
open PySem PySem.Spec PyProof.Rows L2

section
variable {K : PySem.W.Frag} {J H : Hp}
theorem All3.rps : ∀ {vs : List V} {ds : List D} {G : List Addr}, All3 (Ow K J H .fz) vs ds G → RpAll K J vs ds
  | _, _, _, .nil => .nil
  | _, _, _, .cons h r => .cons h.1 (All3.rps r)
theorem All3K.rps : ∀ {vs : List (Key × V)} {ds : List (D × D)} {G : List Addr}, All3K (Ow K J H .fz) vs ds G → RpK K J vs ds
  | _, _, _, .nil => .nil
  | _, _, _, .cons h r => .cons h.1 (All3K.rps r)
theorem All3T.rps : ∀ {vs : List (List Key × V)} {ds : List (D × D)} {G : List Addr}, All3T (Ow K J H .fz) vs ds G → RpT K J vs ds
  | _, _, _, .nil => .nil
  | _, _, _, .cons h r => .cons h.1 (All3T.rps r)
end
def sideS : Sh → KK → Bool
  | .dk .fz, .inl _ => true
  | .dt .fz, .inr _ => true
  | _, _ => false
section
variable {K : PySem.W.Frag} {en : Ent} {cs : List Cell} {σ : L2.St} {J H : Hp}
theorem Sta.dGet {s : Sh} {es : List (D × D)} {v y : V} {kd : D} {q : KK} (st : Sta K en (.ow s (.dict es) :: cs) (some v :: σ) J H) (rk : Rp K J y kd) (hk : kOf kd = some q) (hs : sideS s q = true) : ∃ a o, v = .ref a ∧ IsD H a ∧ DGet H a y o ∧ RelOD K J o (findD es q) := by
  have w := st.wf
  obtain ⟨_, _, _, _, G, g1, _, _⟩ := st
  cases g1 with
  | ow r _ =>
    unfold sideS at hs
    split at hs
    · obtain ⟨a, xs, ds, G', q1, q2, q3, q4, q5, q6⟩ := r
      cases q2
      have ek := kOf_inl hk
      subst ek
      have ev := rk.keyV
      subst ev
      exact ⟨a, _, q1, .inl ⟨xs, .inl q3⟩, DGet.k q3, look_dk q5.rps⟩
    · obtain ⟨a, xs, ds, G', q1, q2, q3, q4, q5, q6⟩ := r
      cases q2
      have ek := kOf_inr hk
      subst ek
      obtain ⟨b, rfl, hb⟩ := rk.keyT
      exact ⟨a, _, q1, .inr ⟨xs, .inl q3⟩, DGet.t q3 (w.sub.ts _ _ hb), look_dt q5.rps⟩
    · cases hs
end
/-! d.get(k, x) and d[k], d owned, its values frozen -/
def mGetO (i : Nat) (mk md : M) : M := fun cs => match cs[i]? with
  | some (.ow (.dk .fz) _) | some (.ow (.dt .fz) _) => match mk cs with
    | some (.fz kd, c1) => match md c1 with
      | some (.fz dd, c2) => match c2[i]? with
        | some (.ow s (.dict es)) => match kOf kd with
          | some q => if sideS s q = true then some (.fz ((findD es q).getD dd), c2) else none
          | none => none
        | _ => none
      | _ => none
    | _ => none
  | _ => none
def mIxO (i : Nat) (mk : M) : M := fun cs => match mk cs with
  | some (.fz kd, c1) => match c1[i]? with
    | some (.ow s (.dict es)) => match kOf kd with
      | some q => if sideS s q = true then match findD es q with
          | some d => some (.fz d, c1)
          | none => none
        else none
      | none => none
    | _ => none
  | _ => none
section
variable {K : PySem.W.Frag} {p : Bool} {i : Nat} {tk td : TE} {mk md : M}
theorem Sta.isD {en : Ent} {cs : List Cell} {σ : L2.St} {J H : Hp} {s : Sh} {d : D} {v : V} (st : Sta K en (.ow s d :: cs) (some v :: σ) J H) (h : (∃ s', s = .dk s') ∨ ∃ s', s = .dt s') : ∃ a, v = .ref a ∧ IsD H a := by
  obtain ⟨_, _, _, _, G, g1, _, _⟩ := st
  cases g1 with
  | ow r _ =>
    rcases h with ⟨s', rfl⟩ | ⟨s', rfl⟩
    · obtain ⟨a, xs, ds, G', q1, q2, q3, _⟩ := r
      exact ⟨a, q1, .inl ⟨xs, .inl q3⟩⟩
    · obtain ⟨a, xs, ds, G', q1, q2, q3, _⟩ := r
      exact ⟨a, q1, .inr ⟨xs, .inl q3⟩⟩
theorem e_getO (hk : E K p tk mk) (hd : E K p td md) : E K p (tDGet2 (tVar i) tk td) (mGetO i mk md) := fun cs c cs' hm en σ J H s Q q => by
  have core : ∀ (s0 : Sh) (d0 : D), cs[i]? = some (.ow s0 d0) → ((∃ s', s0 = .dk s') ∨ ∃ s', s0 = .dt s') → (match mk cs with
    | some (.fz kd, c1) => match md c1 with
      | some (.fz dd, c2) => match c2[i]? with
        | some (.ow s (.dict es)) => match kOf kd with
          | some q => if sideS s q = true then some (Cell.fz ((findD es q).getD dd), c2) else none
          | none => none
        | _ => none
      | _ => none
    | _ => none) = some (c, cs') → tDGet2 (tVar i) tk td σ H Q := fun s0 d0 h0 hs0 hm => by
    split at hm
    · next kd c1 h1 =>
      split at hm
      · next dd c2 h2 =>
        split at hm
        · next sh es h3 =>
          split at hm
          · next qk h4 =>
            split at hm
            · next h5 =>
              cases hm
              obtain ⟨v, e0, s0'⟩ := s.move h0
              obtain ⟨a, rfl, ha⟩ := s0'.isD hs0
              refine ⟨.ref a, e0, a, rfl, ha, ?_⟩
              refine hk _ _ _ h1 en σ J H s _ fun y J1 H1 s1 x1 n1 => ?_
              refine hd _ _ _ h2 en σ J1 H1 s1.pop _ fun z J2 H2 s2 x2 n2 => ?_
              obtain ⟨v', e1, s3⟩ := s2.pop.move h3
              rw [e0] at e1
              cases e1
              obtain ⟨a', o, ea, _, g, rl⟩ := s3.dGet (s1.headFz.ex x2) h4 h5
              cases ea
              refine ⟨o, g, q _ J2 H2 (s2.pop.pushFz ?_) (x1.trans x2) (Nw.and n1 n2)⟩
              cases o with
              | none => cases hf : findD es qk with
                | none => exact s2.headFz
                | some d => rw [hf] at rl; exact rl.elim
              | some v => cases hf : findD es qk with
                | none => rw [hf] at rl; exact rl.elim
                | some d => rw [hf] at rl; exact rl
            · cases hm
          · cases hm
        · cases hm
      · cases hm
    · cases hm
  unfold mGetO at hm
  split at hm
  · next d0 h0 => exact core _ _ h0 (.inl ⟨_, rfl⟩) hm
  · next d0 h0 => exact core _ _ h0 (.inr ⟨_, rfl⟩) hm
  · cases hm
end
section
variable {F : Fm} {p : Bool} {i : Nat} {k e f : Expr} {mk md : M} {x : Str} {px pos apos cpos : Pos}
theorem ex_getO (i : Nat) (hN : F.N[i]? = some x) (hv : Vis F.sc x) (hk : EX F p e mk) (h : EX F p f md) (hd : (x == ("__debug__" : Str)) = false := by decide) (hcd : (x == ("__classdict__" : Str)) = false := by decide)
    (hm : ∀ X : Cx, M2 X (.Name x px) "get" apos e f cpos := by intro _; exact ⟨rfl, rfl, rfl, rfl⟩) : EX F p (.Call (.Attribute (.Name x px) "get" apos) [e, f] [] cpos) (mGetO i mk md) := by
  obtain ⟨t, h1, h2⟩ := h
  obtain ⟨u, k1, k2⟩ := hk
  exact ⟨_, fun X hX => pe_dget2 (hu_of (F.room X hX)) (pe_var (i := i) (by rw [F.hN X hX]; exact hN) (by rw [F.hsc X hX]; exact hv) hd hcd) (k1 X hX) (h1 X hX) (hm X), e_getO k2 h2⟩
end

/-! ### [cells, a, b] -/
def intsOf : List D → Option (List Int)
  | [] => some []
  | .int i :: ds => (intsOf ds).map (i :: ·)
  | _ :: _ => none
theorem intsOf_map : ∀ {ds : List D} {ns : List Int}, intsOf ds = some ns → ds = ns.map PyData.int
  | [], _, h => by cases h; rfl
  | d :: ds, ns, h => by
    cases d with
    | int i =>
      simp only [intsOf, Option.map_eq_some_iff] at h
      obtain ⟨ms, e1, rfl⟩ := h
      rw [intsOf_map e1]
      rfl
    | _ => simp [intsOf] at h
theorem rp_ints {K : PySem.W.Frag} {J : Hp} : ∀ {vs : List V} {ns : List Int}, RpAll K J vs (ns.map PyData.int) → vs = ns.map V.int
  | _, [], h => by cases h; rfl
  | _, n :: ns, h => by
    cases h with
    | cons h1 h2 =>
      cases h1
      rw [rp_ints h2]
      rfl
def mPenL (i : Nat) (ma : MA) : M := fun cs => match cs[i]? with
  | some (.ow (.l .fz) _) => match ma cs with
    | some ([.int a, .int b], c1) => match c1[i]? with
      | some (.ow (.l .fz) (.list ds)) => match intsOf ds with
        | some _ => some (.ow .pen (.list [.list ds, .int a, .int b]), c1.set i .un)
        | none => none
      | _ => none
    | _ => none
  | _ => none
theorem e_penL {K : PySem.W.Frag} {i : Nat} {ta : TA} {ma : MA} (h : A K false ta ma) : E K false (tLst (tCons (tVar i) ta)) (mPenL i ma) := fun cs c cs' hm en σ J H s Q q => by
  unfold mPenL at hm
  split at hm
  · next d0 h0 =>
    split at hm
    · next a b c1 h1 =>
      split at hm
      · next ds h3 =>
        split at hm
        · next ns h4 =>
          cases hm
          obtain ⟨v, e0, s0⟩ := s.move h0
          refine ⟨v, e0, ?_⟩
          refine h _ _ _ h1 en σ J H s _ fun vs J1 H1 s1 r1 x1 _ => ?_
          obtain ⟨v', e1, s2⟩ := s1.move h3
          rw [e0] at e1
          cases e1
          have ed := intsOf_map h4
          subst ed
          have evs : vs = [.int a, .int b] := by
            cases r1 with
            | cons q1 q2 =>
              cases q2 with
              | cons q3 q4 =>
                cases q4
                cases q1
                cases q3
                rfl
          subst evs
          refine ⟨(show 3 ≤ sizeLine by decide), fun pp hp => ?_⟩
          have nD := Nw.own (o := .lst [v, .int a, .int b]) s1.wf hp fun _ z => nomatch z
          obtain ⟨w, f, th, vw, _⟩ := s2.nw nD
          obtain ⟨_, _, _, _, G0, g1, g2, g3⟩ := id s2
          obtain ⟨k1, k2⟩ := nD.keepOwn g1.at
          have hpG : pp ∉ G0 := fun z => by
            obtain ⟨_, u, e, _⟩ := g1.at pp z
            rw [hp] at e; cases e
          have g1' := g1.mono nD.j k1 k2
          have eP : en.H pp = none := s1.th pp hp
          cases g1' with
          | @ow _ _ _ F _ _ G1 r hs =>
            obtain ⟨l, xs, ds', G', q1, q2, q3, q4, q5, q6⟩ := r
            cases q2
            have hG' : G' = [] := List.eq_nil_iff_forall_not_mem.mpr fun b hb => q5.mem (P := fun _ => False) (fun v d F h b hb => by rw [h.2] at hb; cases hb) b hb
            subst hG'
            subst q6
            subst q1
            have exs := rp_ints q5.rps
            subst exs
            refine q _ J1 _ ⟨w, f, th, vw, [pp, l] ++ G1, .ow ⟨pp, l, ns, a, b, rfl, rfl, upd_same, q3, s1.wf.dom pp hp, q4, rfl⟩ hs, List.nodup_cons.mpr ⟨hpG, g2⟩, fun c hc => ?_⟩ x1 fun z => nomatch z
            rcases List.mem_cons.mp hc with z | z
            · subst z; exact .inr eP
            · exact g3 c z
        · cases hm
      · cases hm
    · cases hm
  · cases hm
theorem ex_penL {F : Fm} {x : Str} {px pos : Pos} {es : List Expr} {ma : MA} (i : Nat) (hN : F.N[i]? = some x) (hv : Vis F.sc x) (ha : AX F false es ma) (hd : (x == ("__debug__" : Str)) = false := by decide) (hcd : (x == ("__classdict__" : Str)) = false := by decide)
    (hs : ∀ env, starEach (.Name x px :: es) env = (false, eval (.Name x px) env) :: starEach es env := by intro _; rfl) : EX F false (.List (.Name x px :: es) pos) (mPenL i ma) := by
  obtain ⟨t, h1, h2⟩ := ha
  exact ⟨_, fun X hX => pe_lst (pa_cons (pe_var (i := i) (by rw [F.hN X hX]; exact hN) (by rw [F.hsc X hX]; exact hv) hd hcd) (h1 X hX) (hs _)), e_penL h2⟩
end Mi

/-! Mi24: the law's own head: the script, _law_open, the first row of law. -/
namespace Mi
open PySem PySem.Spec PyProof.Rows L2

section
variable {K : PySem.W.Frag} {J H : Hp}
theorem en_iter {v : V} {d : D} {ds : List D} (w : Wf J H) (rv : Rp K J v d) (hsq : seqOf d = some ds) : ∃ xs G, Src H v xs G ∧ Iter K (ItE G xs) (enumFrom 0 ds) J := by
  obtain ⟨xs, G, sr, ra, hG⟩ := src_of w rv hsq
  refine ⟨xs, G, sr, fun J2 H2 w2 x => ⟨fun i d hd => ?_, hG J2 H2 w2 x, by rw [enumFrom_length]; exact ra.length.symm⟩⟩
  obtain ⟨y, hy, ed⟩ := enumFrom_get ds 0 i d hd
  subst ed
  obtain ⟨yv, hyv, ry⟩ := ra.get hy
  refine ⟨⟨hG J2 H2 w2 x, (List.getElem?_eq_some_iff.mp hyv).1⟩, fun u H3 hu => ?_⟩
  obtain ⟨T, x', eu, nT, eH, hx'⟩ := hu
  rw [hyv] at hx'
  cases hx'
  subst eu eH
  have n := Nw.new (o := .tup [.int (i : Nat), yv]) w2 nT
  refine ⟨_, n, .tup upd_same (.cons ?_ (.cons ((ry.ex x).ex n.j) .nil))⟩
  rw [Nat.zero_add]
  exact .int _
theorem rp_mapInts : ∀ ns : List Int, RpAll K J (ns.map V.int) (ns.map PyData.int)
  | [] => .nil
  | n :: ns => .cons (.int n) (rp_mapInts ns)
theorem cutV_map (ns : List Int) (lo hi : Option Int) : ∃ ms : List Int, cutV (ns.map V.int) lo hi = ms.map V.int ∧ ms.length ≤ ns.length ∧ ms = (ns.drop (HT.sIx ns.length 0 lo)).take (HT.sIx ns.length ns.length hi - HT.sIx ns.length 0 lo) := by
  refine ⟨_, ?_, ?_, rfl⟩
  · unfold cutV
    rw [List.length_map, ← List.map_drop, ← List.map_take]
  · rw [List.length_take, List.length_drop]
    omega
def cutI (ns : List Int) (lo hi : Option Int) : List Int := (ns.drop (HT.sIx ns.length 0 lo)).take (HT.sIx ns.length ns.length hi - HT.sIx ns.length 0 lo)
theorem cutV_ints (ns : List Int) (lo hi : Option Int) : cutV (ns.map V.int) lo hi = (cutI ns lo hi).map V.int := by
  unfold cutV cutI
  rw [List.length_map, ← List.map_drop, ← List.map_take]
theorem cutI_length (ns : List Int) (lo hi : Option Int) : (cutI ns lo hi).length ≤ ns.length := by
  unfold cutI
  rw [List.length_take, List.length_drop]
  omega
end
/-- list(script[:12]) and script[12:63] as the library reads them -/
def rListOf (K : PySem.W.Frag) : List V → Hp → VK → Prop := fun xs H Q => ∃ p ys, xs = [.ref p] ∧ (SqL K H p ys ∨ SqT K H p ys) ∧ ∀ l, H l = none → Q (.ref l) (upd H l (.lst ys))
def tOpA (K : PySem.W.Frag) : TE := tCB (rListOf K) (tCons (tSl (rSlL K) (tVar 0) tNoPart (tPart (tC (.int 12)))) tNil)
def tOpB (K : PySem.W.Frag) : TA := tCons (tSl (rSlL K) (tVar 0) (tPart (tC (.int 12))) (tPart (tC (.int 63)))) tNil
def opGo (mg : MG) (b : MB) (mr : M) (ns : List Int) : Option Cell := match forGo mg b (enumFrom 0 ((cutI ns (some 12) (some 63)).map PyData.int)) [.un, .ow (.l .fz) (.list ((cutI ns none (some 12)).map PyData.int)), .un, .un] with
  | some (.nx c2) => match mr c2 with
    | some (c, _) => some c
    | none => none
  | _ => none
theorem open_run {K : PySem.W.Frag} {vs : List Nat} {g : TG} {tb : TS} {tr : TE} {mg : MG} {b : MB} {mr : M} (hg : G K vs g mg) (hv : ∀ v ∈ vs, 0 ≤ v) (hb : B K 0 tb b) (hr : E K false tr mr) {a : Addr} {ns : List Int} {J H : Hp} {c : Cell} {Q : VK} (w : Wf J H) (hS : SqL K H a (ns.map V.int))
    (h : opGo mg b mr ns = some c) (q : ∀ v J' H', Ex J J' → Sta K ⟨J, H, []⟩ [c] [some v] J' H' → Q v H') :
    tSeq (tAsg (tOpA K) (gName 1)) (tSeq (tFor (iEn (tOpB K)) g tb) (tRet tr)) { nx := fun _ H' => Q .non H', rt := Q } [some (.ref a), none, none, none] H := by
  unfold opGo at h
  split at h
  · next c2 hf =>
    split at h
    · next c0 c3 hm =>
      cases h
      -- the script's first twelve
      refine ⟨.ref a, rfl, 12, rfl, a, ns.map V.int, rfl, hS, fun p hp => ?_⟩
      have n1 := Nw.own (o := .lst (cutV (ns.map V.int) none (some 12))) w hp fun _ z => nomatch z
      refine ⟨p, _, rfl, .inl (SqL.of upd_same), fun l hl => ?_⟩
      have n2 := Nw.own (o := .lst (cutV (ns.map V.int) none (some 12))) n1.wf hl fun _ z => nomatch z
      have s0 : Sta K ⟨J, H, []⟩ [.un, .un, .un, .un] [some (.ref a), none, none, none] J H := ⟨w, fun a u e _ => e, fun a e => e, fun a _ _ e => e, [], .un (.un (.un (.un .nil))), List.nodup_nil, fun a ha => by cases ha⟩
      have hlH : H l = none := n1.h.back hl
      have s1 := (s0.nw n1).pushOw n2 (s := .l .fz) (d := .list ((cutI ns none (some 12)).map PyData.int)) (v := .ref l) (G := [l]) ⟨l, _, _, [], rfl, rfl, upd_same, n1.wf.dom l hl, by rw [cutV_ints]; exact All3.fzs (rp_mapInts _), rfl⟩ (by simp) (fun b hb => by simp at hb; subst hb; exact hl)
      have s2 := s1.set (i := 1) (by simp)
      have hS2 : SqL K (upd (upd H p (.lst (cutV (ns.map V.int) none (some 12)))) l (.lst (cutV (ns.map V.int) none (some 12)))) a (ns.map V.int) := (n1.h.trans n2.h).le.sqL hS
      -- the rest of it
      refine ⟨.ref a, rfl, 12, rfl, 63, rfl, a, ns.map V.int, rfl, hS2, fun p2 hp2 => ?_⟩
      have n3 := Nw.new (o := .lst (cutV (ns.map V.int) (some 12) (some 63))) s2.wf hp2
      have s3 := s2.nw n3
      have rp : Rp K (upd J p2 (.lst (cutV (ns.map V.int) (some 12) (some 63)))) (.ref p2) (.list ((cutI ns (some 12) (some 63)).map PyData.int)) := .lst upd_same (by rw [cutV_ints]; exact rp_mapInts _)
      obtain ⟨xs, Gs, sr, hit⟩ := en_iter s3.wf rp (ds := (cutI ns (some 12) (some 63)).map PyData.int) rfl
      refine ⟨.ref p2, xs, Gs, rfl, sr, ?_⟩
      refine for_core (L := fun _ => True) (fx := 0) (fun _ _ _ _ _ => trivial) hv s3 hf (fun J2 H2 w2 x2 _ => hit J2 H2 w2 x2) hg hb _ ?_
      intro σ' J' H' s4 x4 _
      refine hr _ _ _ hm _ σ' J' H' s4 _ fun v J5 H5 s5 x5 _ => ?_
      exact q v J5 H5 ((n3.j.trans x4).trans x5) (Sta.left (r := [c]) (τ := [some v]) s5 rfl)
    · cases h
  · cases h

/-- _law_open's promise -/
def spOpen (K : PySem.W.Frag) (g : List Int → Option Cell) : Sq := fun vs H Q => vs.length = 1 ∧ ∃ (a : Addr) (ns : List Int) (J : Hp) (c : Cell), vs = [.ref a] ∧ SqL K H a (ns.map V.int) ∧ Wf J H ∧ g ns = some c ∧ ∀ v J' H', Ex J J' → Sta K ⟨J, H, []⟩ [c] [some v] J' H' → Q v H'
/-- law's promise -/
def spLaw (K : PySem.W.Frag) (n : Nat) : Sq := fun vs H Q => vs.length = 1 ∧ ∃ (a : Addr) (ns : List Int), vs = [.ref a] ∧ ns.length ≤ n ∧ Only H ∧ SqL K H a (ns.map V.int) ∧ ∀ v H', v = .bl true → Q v H'
section
variable {P : Program} {w : World} {K : PySem.W.Frag} {mg : Str → Option Value} {base : Heap} {k : Nat} {f : Addr} {fd : FuncData} {N : List Str} {x qual : Str} {st : Stmt}
theorem pr_open {N : List Str} (Df : Fun K x qual st f fd) (S : FnScope N ["script"] (defScope st)) (hN : N.length = 4) {vs : List Nat} {g : TG} {tb : TS} {tr : TE} {mG : MG} {b : MB} {mr : M} (hg : G K vs g mG) (hb : B K 0 tb b) (hr : E K false tr mr)
    (ht : ∀ X, (Fm.ofDef P w K mg base N (defScope st) k S.nd).mem X → PSs X (defBody st) (tSeq (tAsg (tOpA K) (gName 1)) (tSeq (tFor (iEn (tOpB K)) g tb) (tRet tr)))) :
    Pr P w K mg base (k + 1) f fd ["script"] (spOpen K (opGo mG b mr)) := by
  refine pr_of' Df S ht (fun vs H Q h => h.1) fun vs H Q ⟨_, a, ns, J, c, ev, hS, w, h, q⟩ => ?_
  subst ev
  have e : L2.start N [.ref a] = [some (.ref a), none, none, none] := by
    unfold L2.start
    rw [hN]
    rfl
  rw [e]
  exact open_run hg (fun _ _ => Nat.zero_le _) hb hr w hS h q
theorem only_wf {H : Hp} (h : Only H) : Wf (fun _ => none) H := by
  refine ⟨⟨fun a u e => ?_, fun a xs e => ?_, fun a xs e => ?_⟩, fun a xs e => ?_, fun _ _ => rfl⟩
  · rcases e with e | ⟨o, e⟩ <;> cases e
  · cases e
  · cases e
  · rcases h a with z | ⟨o, ys, z⟩
    · rw [z] at e; cases e
    · rw [z] at e; cases e
theorem law_run {go : List Int → Option Cell} {tr : TS} {br : MB} {n m : Nat} {a : Addr} {ns : List Int} {H : Hp} {Q : VK} (hb : B K 0 tr br) (hO : Only H) (hS : SqL K H a (ns.map V.int)) {c : Cell} {cs' : List Cell} (h1 : go ns = some c) (h2 : br (.un :: c :: List.replicate m .un) = some (.rt (.fz (.bool true)) cs'))
    (q : ∀ v H', v = .bl true → Q v H') : tSeq (tAsg (tGo (spOpen K go) (tCons (tVar 0) tNil)) (gName 1)) tr { nx := fun _ H' => Q .non H', rt := Q } (some (.ref a) :: none :: List.replicate m none) H := by
  refine ⟨.ref a, rfl, rfl, a, ns, _, c, rfl, hS, only_wf hO, h1, fun v J' H' x s => ?_⟩
  have s1 : Sta K ⟨fun _ => none, H, []⟩ (.un :: c :: List.replicate m .un) (some (.ref a) :: some v :: List.replicate m none) J' H' := by
    have := (s.pad m).pushUn (o := some (.ref a))
    simpa using this
  refine hb _ _ h2 _ _ J' H' s1 _ fun v' σ' J2 H2 s2 _ _ => q v' H2 ?_
  have r := s2.headFz
  cases r
  rfl
theorem pr_law {N : List Str} {m n : Nat} (Df : Fun K x qual st f fd) (S : FnScope N ["script"] (defScope st)) (hN : N.length = m + 2) {go : List Int → Option Cell} {tr : TS} {br : MB} (hb : B K 0 tr br)
    (ht : ∀ X, (Fm.ofDef P w K mg base N (defScope st) k S.nd).mem X → PSs X (defBody st) (tSeq (tAsg (tGo (spOpen K go) (tCons (tVar 0) tNil)) (gName 1)) tr))
    (law : ∀ ns : List Int, ns.length ≤ n → ∃ c cs', go ns = some c ∧ br (.un :: c :: List.replicate m .un) = some (.rt (.fz (.bool true)) cs')) : Pr P w K mg base (k + 1) f fd ["script"] (spLaw K n) := by
  refine pr_of' Df S ht (fun vs H Q h => h.1) fun vs H Q ⟨_, a, ns, ev, hl, hO, hS, q⟩ => ?_
  subst ev
  obtain ⟨c, cs', h1, h2⟩ := law ns hl
  have e : L2.start N [.ref a] = some (.ref a) :: none :: List.replicate m none := by
    unfold L2.start
    rw [hN, show m + 2 - [V.ref a].length = m + 1 from rfl, List.replicate_succ]
    rfl
  rw [e]
  exact law_run (m := m) (n := n) hb hO hS h1 h2 q
end

/-! ### the head of the law -/
theorem head_call {P : Program} {w : World} {K : PySem.W.Frag} {mg mb : Str → Option Value} {k n : Nat} {fa a : Addr} {fd : FuncData} {x : Str} {s₁ : Shared} {vs : List Value} {ns : List Int}
    (KX : K.In s₁.heap) (hns : s₁.heap.Ns mainGlobals mg) (hb : s₁.heap.Ns builtinsNs mb) (hbb : ∀ x : Str, x ≠ "__name__" → mb x = bootBuiltins x) (hlim : s₁.heap.NoLimit) (hg : s₁.gens = #[])
    (ha : s₁.heap.get? a = some { cls := .type "list", data := .seq vs.toArray }) (hi : IntsAre vs ns) (hl : ns.length ≤ sizeLine) (hn : ns.length ≤ n) (hr : Room k callerA) (gd : callerA.guards = some [])
    (R : ∀ base : Heap, K.In base → base.Ns mainGlobals mg → Pr P w K mg base k fa fd [x] (spLaw K n)) (hbind : ∀ (s : Shared) (u : Value), BindsTo s fd ⟨[u], []⟩ [(x, u)]) :
    codeAny (model P w) callerA (.call (.ref fa) ⟨[.ref a], []⟩) (fun r s' => r = .ok (.ret (.bool true)) ∧ OldK s₁.heap s'.heap ∧ s'.os = s₁.os ∧ AllBare s'.gens) s₁ := by
  have script := vals_ints hi
  -- from any abstract heap that tells at most the script
  have main : ∀ H : Hp, Only H → SqL K H a (ns.map V.int) → HOk P w H s₁.heap → (∀ b, H b ≠ none → b = a) → (H a ≠ none → K.lookup a = none) →
      codeAny (model P w) callerA (.call (.ref fa) ⟨[.ref a], []⟩) (fun r s' => r = .ok (.ret (.bool true)) ∧ OldK s₁.heap s'.heap ∧ s'.os = s₁.os ∧ AllBare s'.gens) s₁ := by
    intro H only sq ok one noK
    have free : ∀ {b : Addr} {o : Obj}, s₁.heap.get? b = some o → H b = none → (hidT s₁.heap H).get? b = some o := fun e n => hidT_get e n
    have isA : ∀ {b : Addr}, H b ≠ none → b = a ∧ H a ≠ none := fun {b} h => by
      have e := one b h
      exact ⟨e, e ▸ h⟩
    have noDict : ∀ {b : Addr} {o : Obj} {es : Array DictEntry} {ep : Nat}, s₁.heap.get? b = some o → o.data = .dict es ep → H b = none := fun {b o es ep} e d => by
      by_cases z : H b = none
      · exact z
      · obtain ⟨rfl, _⟩ := isA z
        rw [ha] at e
        cases e
        exact absurd (show Data.seq vs.toArray _ = Data.dict es ep from d) (fun z => nomatch z)
    have names : ∀ {b : Addr} {m : Str → Option Value}, s₁.heap.Ns b m → (hidT s₁.heap H).Ns b m := fun ⟨o, es, ep, e, d, r⟩ => ⟨o, es, ep, free e (noDict e d), d, r⟩
    have kin : K.In (hidT s₁.heap H) := fun b o e => free (KX b o e) (by
      by_cases z : H b = none
      · exact z
      · obtain ⟨rfl, y⟩ := isA z
        rw [noK y] at e
        cases e)
    have md : Mod K mg (hidT s₁.heap H) := ⟨kin, names hns, ⟨mb, names hb, hbb⟩, let ⟨mc, h1, h2⟩ := hlim; ⟨mc, names h1, h2⟩⟩
    have e0 : Env0 P w K mg (hidT s₁.heap H) callerA [] s₁ H :=
      ⟨rfl, md, fun b o e => of_hidT e, Nat.le_of_eq (hidT_size _ _), trivial, fun b hb => (by cases hb), ok, .of_eq hg⟩
    refine codeAny_mono ((R _ kin (names hns)).run callerA [] s₁ H [.ref a] [.ref a] (fun v _ => v = .bl true) hr gd e0 (hbind s₁ (.ref a)) (.cons rfl .nil) ⟨rfl, a, ns, rfl, hn, only, sq, fun v H' e => e⟩) fun r s' ⟨u, er, v, H', os, bare, un, ok', rv, ev⟩ => ?_
    subst ev er
    obtain rfl : u = Value.bool true := rv
    refine ⟨rfl, OldK.of_keep fun b o e => ?_, os, bare⟩
    by_cases z : H b = none
    · exact un.keep b o e z (fun y => by cases y) (by simp)
    · rcases only b with y | ⟨ob, xs, y⟩
      · exact absurd y z
      · obtain ⟨e1, _⟩ := ok b _ y
        obtain ⟨e2, _⟩ := ok' b _ (un.frzs b ob _ y)
        rw [e] at e1
        cases e1
        exact e2
  cases hk : K.lookup a with
  | some o =>
    have e := KX a o hk
    rw [ha] at e
    cases e
    exact main (fun _ => none) (fun _ => .inl rfl) (.inr ⟨_, vs.toArray, _, hk, rfl, rfl, rfl, by rw [List.size_toArray, hi.length]; exact hl, by simpa using script⟩) (fun b u z => by cases z) (fun b z => absurd rfl z) fun z => absurd rfl z
  | none =>
    have at' : ∀ b, b ≠ a → (fun b => if b = a then some (HO.frz { cls := .type "list", data := .seq vs.toArray } (.lst (ns.map V.int))) else none) b = none := fun b h => if_neg h
    refine main (fun b => if b = a then some (.frz { cls := .type "list", data := .seq vs.toArray } (.lst (ns.map V.int))) else none) (fun b => ?_) (.inl (.inr ⟨_, if_pos rfl⟩)) (fun b u z => ?_) (fun b z => ?_) fun _ => hk
    · by_cases h : b = a
      · exact .inr ⟨_, _, if_pos h⟩
      · exact .inl (at' b h)
    · by_cases h : b = a
      · subst h
        have z' := (if_pos rfl).symm.trans z
        cases z'
        exact ⟨ha, by rw [List.length_map]; exact hl, vs, _, script, ha⟩
      · rw [at' b h] at z
        cases z
    · by_cases h : b = a
      · exact h
      · exact absurd (at' b h) z
/-- the goal that k_head leaves, from the law's promise -/
theorem mi_walk {l : PySem.W.OpenLaw} {n k : Nat} {q : Program} {loose : List Str} {XP : (Str → Option Value) → Heap → Prop} {YP : World → Heap → Prop} {d : DefRec} {K : Params → PySem.W.Frag} {x : Str}
    (hn : l.most = some n) (hn2 : n ≤ sizeLine) (hdf : d.params.defaults = []) (hr : Room k callerA) (gd : callerA.guards = some [])
    (hY : ∀ (w : World) (h : Heap), YP w h → (K w.params).In h)
    (F : ∀ (w : World) (mg : Str → Option Value) (fa : Addr) (h : Heap), (K w.params).In h → h.Ns mainGlobals mg → mg d.name = some (.ref fa) →
      ∃ fd : FuncData, (∀ (s : Shared) (u : Value), BindsTo s fd ⟨[u], []⟩ [(x, u)]) ∧ ∀ base : Heap, (K w.params).In base → base.Ns mainGlobals mg → Pr l.prog w (K w.params) mg base k fa fd [x] (spLaw (K w.params) n)) :
    PySem.W.WalkO q loose XP YP l.row.toRowW d [] (fun f vs => PySem.call f vs) := by
  refine Att.attach_call hn hdf fun w s₀ s₁ mg mb fa o pm cd doc a vs ns G Y ho hd hcd hmg hobj hints hlen hg => ?_
  have KX := hY w _ Y
  obtain ⟨fd, hb, hF⟩ := F w mg fa _ KX G.T.g hmg
  exact head_call KX G.T.g G.T.b G.T.builtins G.T.nolimit hg hobj hints (Nat.le_trans hlen hn2) hlen hr gd hF hb
end Mi

/-! Mi25: defs of the module, short words for the printed terms; list of a text, list.count. -/
namespace Mi
open PySem PySem.Spec PyProof.Rows L2

/-- a def of the module: its promise, its name, how it binds -/
structure Cl (P : Program) (w : World) (K : PySem.W.Frag) (mg : Str → Option Value) (base : Heap) (x : Str) (k : Nat) (ps : List Str) (sp : Sq) : Prop where
  ex : ∃ (f : Addr) (fd : FuncData), Pr P w K mg base k f fd ps sp ∧ mg x = some (.ref f) ∧ PySem.W.keepIn K (.ref f) = true ∧ Binds K fd ps []
def visB (sc : Scope) (x : Str) : Bool := match sc.names.lookup x with
  | some .local | some .cell | some .free => true
  | _ => false
theorem vis_of {sc : Scope} {x : Str} (h : visB sc x = true) : Vis sc x := by
  unfold visB at h
  split at h
  · exact .inl ‹_›
  · exact .inr (.inl ‹_›)
  · exact .inr (.inr ‹_›)
  · cases h
def locB (sc : Scope) (x : Str) : Bool := match sc.names.lookup x with
  | some .local | some .cell => true
  | _ => false
theorem loc_of {sc : Scope} {x : Str} (h : locB sc x = true) : Loc sc x := by
  unfold locB at h
  split at h
  · exact .inl ‹_›
  · exact .inr ‹_›
  · cases h
def lclB (F : Fm) (x : Str) : Bool := F.fn x || (match F.sc.names.lookup x with
  | some .local => true
  | _ => false)
theorem lcl_of {F : Fm} {x : Str} (h : lclB F x = true) : F.fn x = true ∨ F.sc.names.lookup x = some .local := by
  unfold lclB at h
  rcases Bool.or_eq_true_iff.mp h with h | h
  · exact .inl h
  · split at h
    · exact .inr ‹_›
    · cases h
theorem lvl_of {a b : Nat} (h : Nat.ble a b = true) : a ≤ b := Nat.le_of_ble_eq_true h
theorem calmOf {F : Fm} {X : Cx} (hX : F.mem X) : X.calm = true := F.calm X hX
theorem roomOf {F : Fm} {X : Cx} (hX : F.mem X) : Room F.k X.A := F.room X hX
theorem gdOf {F : Fm} {X : Cx} (hX : F.mem X) : X.A.guards = some [] := F.gd X hX

/-- list(x), also of a text -/
def listD3 : List D → Option D
  | [.str x] => if x.length ≤ LIM then some (.list (strL x)) else none
  | ds => listD2 ds
theorem call_listD3 {X : Cx} (hc : X.calm = true) : CallR X (.type "list") (RVn X.K listD3) := fun pins s σ H xs us Q I rx h => by
  obtain ⟨J, ds, z, w, r, hf, q⟩ := h
  unfold listD3 at hf
  split at hf
  · next x =>
    split at hf
    · next hl =>
      cases hf
      cases r with
      | cons r1 r2 =>
        cases r2
        cases rx with
        | cons rx1 rx2 =>
          cases rx2
          cases r1
          obtain ⟨t, rfl⟩ := rx1
          have hx : x.cps.size ≤ sizeLine := Nat.le_trans hl lim_line
          refine call_list_str (hn := hx) (I.ok.hd hc) x t fun h' tk acc c' k hS hacc => ?_
          have hfr : H s.heap.objs.size = none := I.hok.fresh (Nat.le_refl _)
          have hv : Vals (strV x) acc.toList := by
            have go : ∀ (cs : List V) (us : List Value), cs.length = us.length → (∀ (i : Nat) (v : Value), us[i]? = some v → ∃ y, cs[i]? = some y ∧ RelV y v) → Vals cs us := by
              intro cs
              induction cs with
              | nil => intro us hl _; cases us with
                | nil => exact .nil
                | cons => simp at hl
              | cons c cs ih => intro us hl h; cases us with
                | nil => simp at hl
                | cons u us =>
                  obtain ⟨y, e1, e2⟩ := h 0 u rfl
                  cases e1
                  exact .cons e2 (ih us (by simpa using hl) fun i v e => h (i + 1) v (by simpa using e))
            refine go _ _ (by simp [strV, hacc.1]) fun i v e => ?_
            obtain ⟨c, u, hc, rfl⟩ := hacc.2 i v (by rw [← Array.getElem?_toList]; exact e)
            refine ⟨.str ⟨#[c]⟩, ?_, ⟨u, rfl⟩⟩
            unfold strV
            rw [List.getElem?_map]
            have : x.cps.toList[i]? = some c := by simpa using hc
            rw [this]
            rfl
          have n := Nw.new (o := .lst (strV x)) w hfr
          exact ⟨.ref s.heap.objs.size, _, I.laid (t' := tk) k (Nat.le_refl _) (o := .lst (strV x)) ⟨by simp [strV]; exact hx, acc.toList, c', hv, by rw [Array.toArray_toList]; exact hS⟩, rfl, q _ _ _ n (.lst upd_same (rp_strL x))⟩
    · cases hf
  · exact call_listD2 hc pins s σ H xs us Q I rx ⟨J, _, z, w, r, hf, q⟩
/-- xs.count(x) -/
def countD : D → List D → Option D
  | .list ds, [d] => if SeqAt.shaped (.list ds) && SeqAt.shaped d then some (.int (ds.countP fun e => PyData.eqv e d)) else none
  | _, _ => none
theorem countD_ty : ∀ d ds z, countD d ds = some z → tyName d = "list" := fun d ds z h => by
  cases d <;> first | rfl | simp [countD] at h
theorem mt_countD {X : Cx} (hu : X.A.units + 65 < cLine) : MtR X "list.count" (RVm X.K countD) := fun pins s σ H x xs v us Q I rx rv h => by
  obtain ⟨J, d, ds, z, w, rp, r, hf, q⟩ := h
  unfold countD at hf
  split at hf
  · next ds0 d0 =>
    split at hf
    · next hs =>
      cases hf
      simp only [Bool.and_eq_true] at hs
      cases r with
      | cons r1 r2 =>
        cases r2
        cases rv with
        | @cons _ uy _ _ ry rt =>
          cases rt
          obtain ⟨bs, rd, _⟩ := (r1.le w.sub).reads I ry
          cases rp with
          | lst h1 a1 =>
            cases rx
            obtain ⟨its, rvs, ⟨⟨cls, dd, data, sls⟩, n, ho, hc, hdn, hdt⟩, hlen⟩ := I.list (SqL.of (w.sub.ls _ _ h1))
            simp only at hc hdt
            subst hc hdt
            obtain ⟨as, h4, _⟩ := (a1.le w.sub).reads I rvs
            have hxs : PyData.canLayAll0 ds0 = true := SeqAt.canLay_of_shaped hs.1
            have hmap : its.map (SeqAt.readOf s.heap) = ds0 := SeqAt.readsAll_map ds0 its as hxs h4
            have hroom : X.A.units + 1 + min (PyData.depthAll ds0) d0.depth < cLine := room_in_shaped hs.2 hu
            refine call_meets PySem.F.slot_list_count ⟨_, ho, rfl⟩ PySem.F.entry_list_count (PySem.F.args_list_count_2 _ _)
              (SeqAt.list_countAt _ its.toArray n dd sls uy (fun u => PyData.eqv (SeqAt.readOf s.heap u) d0)) ⟨ho, SeqAt.items_eqAt (vs := its.toArray) (show ReadsAll s.heap its.toArray.toList ds0 as from h4) rd hxs (SeqAt.canLay_of_shaped hs.2) hroom, ?_⟩
            have ec : its.toArray.toList.countP (fun u => PyData.eqv (SeqAt.readOf s.heap u) d0) = ds0.countP fun e => PyData.eqv e d0 := by
              rw [← hmap, List.countP_map]
              rfl
            exact ⟨.int (ds0.countP fun e => PyData.eqv e d0 : Nat), H, I.tok _, ⟨s.toks, by rw [ec]⟩, q _ J H (.refl w) (.int _)⟩
    · cases hf
  · cases hf
theorem ex_count {F : Fm} {p : Bool} {o e : Expr} {es : List Expr} {mo : M} {ma : MA} {apos cpos : Pos} (ho : EX F p o mo) (ha : AX F p (e :: es) ma)
    (hbase : ∀ env, attributeBase o "count" env (eval o env) = eval o env := by intro _; rfl)
    (hfew : ∀ env, ((backTo cpos (starEach (e :: es) env)).all (fun x => !x.1) && (backToKw cpos (keywordEach [] env)).all (fun x => x.1.isSome) && decide ((e :: es).length + ([] : List Keyword).length + (if ([] : List Keyword).isEmpty then 0 else 1) < 30)) = true := by intro _; rfl)
    (hline : (apos.endLine == cpos.line) = true := by rfl) (hs : ∀ env, starEach (e :: es) env = (false, eval e env) :: starEach es env := by intro _; rfl) (hplain : ∀ env, (backTo cpos (starEach es env)).any (·.1) = false := by intro _; rfl) :
    EX F p (.Call (.Attribute o "count" apos) (e :: es) [] cpos) (mMeth countD mo ma) :=
  ex_meth countD_ty (.inr (.inl rfl)) PySem.F.plainAttrs_list PySem.F.slot_list_count PySem.F.type_list_count (fun X hX => mt_countD (by have := (F.room X hX).un; omega)) ho ha hbase hfew hline hs hplain
end Mi

/-! Mi26: each list of an owned dict grows by None; a dict of tuples gets the key None. -/
namespace Mi
open PySem PySem.Spec PyProof.Rows L2

def appGo : List D → List (D × D) → Option (List (D × D))
  | [], es => some es
  | kd :: r, es => match kOf kd with
    | some (.inr k) => if cntD es (.inr k) ≤ 1 ∧ lenOk (findD es (.inr k)) = true then appGo r (appAt es (.inr k) .none) else none
    | _ => none
def mAppAll (i j : Nat) : MB := fun cs => match cs[i]? with
  | some (.ow (.dt (.l .fz)) (.dict es)) => if i ≠ j ∧ j < cs.length then match appGo (es.map (·.1)) es with
      | some es' => some (.nx ((cs.set j .un).set i (.ow (.dt (.l .fz)) (.dict es'))))
      | none => none
    else none
  | _ => none
theorem appAt_keys (es : List (D × D)) (q : KK) (x : D) : (appAt es q x).map (·.1) = es.map (·.1) := by
  unfold appAt
  rw [List.map_map]
  refine List.map_congr_left fun e _ => ?_
  show (if kOf e.1 = some q then (e.1, appD e.2 x) else e).1 = e.1
  split <;> rfl
theorem upd_comm {H : Hp} {a b : Addr} {o u : HO} (h : a ≠ b) : upd (upd H a o) b u = upd (upd H b u) a o := by
  funext c
  unfold upd
  by_cases h1 : c = b
  · subst h1
    rw [if_pos rfl, if_neg (Ne.symm h), if_pos rfl]
  · rw [if_neg h1]
    by_cases h2 : c = a
    · subst h2
      rw [if_pos rfl, if_pos rfl]
    · rw [if_neg h2, if_neg h2, if_neg h1]
theorem upd_back {H : Hp} {a : Addr} {o u : HO} (h : H a = some u) : upd (upd H a o) a u = H := by
  funext c
  unfold upd
  by_cases h1 : c = a
  · subst h1; rw [if_pos rfl, h]
  · rw [if_neg h1, if_neg h1]
theorem findD_mem {k : List Key} : ∀ l : List (D × D), PyData.tuple (k.map keyD) ∈ l.map (·.1) → (findD l (.inr k)).isSome = true
  | [], h => by cases h
  | e :: l, h => by
    unfold findD
    split
    · rfl
    · next hne =>
      rcases List.mem_cons.mp h with z | z
      · exact absurd (by have z' : PyData.tuple (k.map keyD) = e.1 := z; rw [← z']; exact kOf_tuple k) hne
      · exact findD_mem l z
def tAppAll (K : PySem.W.Frag) (i j : Nat) : TS := tUnlS (tFor (iK K (tVar i)) (gName j) (tDrop (tBM K "list" rAppend (tDGet (tVar i) (tVar j)) (tCons (tC .non) tNil))))
theorem rp_key_of {K : PySem.W.Frag} {H : Hp} {y : V} {k : List Key} (h : Rp K H y (.tuple (k.map keyD))) : ∃ q, y = .ref q ∧ H q = some (.tup (k.map kV)) := h.keyT
theorem b_appAll {K : PySem.W.Frag} {fx i j : Nat} (hj : fx ≤ j) : B K fx (tAppAll K i j) (mAppAll i j) := fun cs fl hm en σ J H s D q => by
  unfold mAppAll at hm
  split at hm
  · next es h0 =>
    split at hm
    · next hg =>
      split at hm
      · next es' h1 =>
        cases hm
        obtain ⟨hij, hjl⟩ := hg
        obtain ⟨v, e0, s0⟩ := s.move h0
        obtain ⟨a, kvs, rfl, ha, hlen⟩ := s0.dtAt
        have rp : Rp K H (.ref a) (.dict es) := by
          obtain ⟨_, _, _, _, _, z1, _, _⟩ := id s0
          cases z1 with
          | ow r _ => exact r.read s0.wf
        refine ⟨.ref a, e0, H, a, es, rfl, .self H, rp, fun o u ys H2 lk hq ry => ?_⟩
        -- the lock is new
        have lk2 : u = .dT kvs ∧ H2 = upd H a (.frz o (.dT kvs)) := by
          rcases lk with ⟨_, e⟩ | ⟨e, _, e2⟩
          · rw [ha] at e; cases e
          · rw [ha] at e; cases e; exact ⟨rfl, e2⟩
        obtain ⟨rfl, rfl⟩ := lk2
        have hkeys : ys.length = es.length := by rw [ry.length, List.length_map]
        have s1 : Sta K en (.ow (.dt (.l .fz)) (.dict es) :: (cs.set i .un).set j .un) (some (.ref a) :: σ) J H := Sta.forget (i := j + 1) s0
        refine ⟨fun t m σ' H' => m = es.length - t ∧ t ≤ es.length ∧ ∃ Hu est, Hu a = some (.dT kvs) ∧ H' = upd Hu a (.frz o (.dT kvs)) ∧ Sta K en (.ow (.dt (.l .fz)) (.dict est) :: (cs.set i .un).set j .un) (some (.ref a) :: σ') J Hu ∧
            appGo ((es.map (·.1)).drop t) est = some es' ∧ est.map (·.1) = es.map (·.1) ∧ (∀ b xs, H b = some (.tup xs) → Hu b = some (.tup xs)) ∧ σ'[i]? = some (some (.ref a)) ∧ σ'.take fx = σ.take fx ∧ σ'.length = σ.length,
          ⟨es.length, by simp, Nat.zero_le _, H, es, ha, rfl, s1, by simpa using h1, rfl, fun _ _ e => e, e0, rfl, rfl⟩, fun t m σ' H' hW => ?_⟩
        obtain ⟨rfl, htl, Hu, est, hua, rfl, st, hgo, hk, htup, hsi, htk, hsl⟩ := hW
        by_cases hlt : t < es.length
        · refine .inr ⟨⟨upd_same, by omega⟩, fun σ3 H3 => ∃ Hu est, Hu a = some (.dT kvs) ∧ H3 = upd Hu a (.frz o (.dT kvs)) ∧ Sta K en (.ow (.dt (.l .fz)) (.dict est) :: (cs.set i .un).set j .un) (some (.ref a) :: σ3) J Hu ∧
            appGo ((es.map (·.1)).drop (t + 1)) est = some es' ∧ est.map (·.1) = es.map (·.1) ∧ (∀ b xs, H b = some (.tup xs) → Hu b = some (.tup xs)) ∧ σ3[i]? = some (some (.ref a)) ∧ σ3.take fx = σ.take fx ∧ σ3.length = σ.length,
            fun σ3 H3 hN => ⟨es.length - (t + 1), by omega, rfl, hlt, hN⟩, fun x H3 hy => ?_⟩
          obtain ⟨rfl, hx⟩ := hy
          have hkt : t < (es.map (·.1)).length := by rw [List.length_map]; exact hlt
          rw [List.drop_eq_getElem_cons hkt] at hgo
          unfold appGo at hgo
          split at hgo
          · next k hk0 =>
            split at hgo
            · next hc =>
              have ekd := kOf_inr hk0
              obtain ⟨x', hx', rx⟩ := ry.get (List.getElem?_eq_getElem hkt)
              rw [hx] at hx'
              cases hx'
              rw [ekd] at rx
              obtain ⟨b, rfl, hb⟩ := rp_key_of rx
              have hbu := htup _ _ hb
              have hba : b ≠ a := fun z => by rw [z, hua] at hbu; cases hbu
              -- the key is there
              have look : (valV kvs k).isSome = (findD est (.inr k)).isSome := by
                obtain ⟨_, _, _, _, _, z1, _, _⟩ := id st
                cases z1 with
                | ow r _ =>
                  obtain ⟨a', kvs', ds', G, q1, q2, q3, q4, q5, q6⟩ := r
                  cases q1
                  cases q2
                  rw [hua] at q3
                  cases q3
                  exact q5.look
              have there : (findD est (.inr k)).isSome = true := by
                have mem : PyData.tuple (k.map keyD) ∈ est.map (·.1) := by
                  rw [hk, ← ekd]
                  exact List.getElem_mem _
                exact findD_mem est mem
              obtain ⟨v', hv'⟩ := Option.isSome_iff_exists.mp (look.trans there)
              obtain ⟨l, zs, ds, ev, hl, hf, hz, fin⟩ := st.sdFinal hua hv' hc.1
              subst ev
              have hla : l ≠ a := fun z => by rw [z, hua] at hl; cases hl
              have hzl : zs.length < sizeLine := by
                have h2 := hc.2
                rw [hf] at h2
                have : ds.length < LIM := by simpa [lenOk] using h2
                have := lim_line
                omega
              have hl' : upd Hu a (.frz o (.dT kvs)) l = some (.lst zs) := by rw [upd_ne hla]; exact hl
              have hjσ : j < σ'.length := by
                have := s.len
                omega
              refine ⟨.ref a, by rw [List.getElem?_set_ne (Ne.symm hij)]; exact hsi, .ref b, by rw [List.getElem?_set_self hjσ], a, .ref l, rfl, .inr ⟨kvs, k, b, .inr ⟨o, upd_same⟩, rfl, by rw [upd_ne hba]; exact hbu, hv'.symm⟩, ?_⟩
              refine ⟨.inl ⟨rfl, zs, .inl (.inl hl')⟩, l, zs, .non, rfl, rfl, hl', hzl, ?_⟩
              have st2 := fin .non .none .non
              have st3 := Sta.wipe st2 (j + 1) (some (.ref b))
              refine ⟨upd Hu l (.lst (zs ++ [.non])), _, by rw [upd_ne (Ne.symm hla)]; exact hua, upd_comm (Ne.symm hla), ?_, hgo, by rw [appAt_keys]; exact hk, fun c xs e => ?_, by rw [List.getElem?_set_ne (Ne.symm hij)]; exact hsi, by rw [take_set hj]; exact htk, by rw [List.length_set]; exact hsl⟩
              · simpa using st3
              · have := htup c xs e
                rw [upd_ne fun z => by rw [z, hl] at this; cases this]
                exact this
            · cases hgo
          · cases hgo
        · have e : t = es.length := by omega
          subst e
          rw [List.drop_eq_nil_of_le (by rw [List.length_map]; exact Nat.le_refl _)] at hgo
          cases hgo
          refine .inl ⟨⟨upd_same, by omega⟩, .inr ⟨a, o, .dT kvs, fun o' u' z => ?_, upd_same, ?_⟩⟩
          · rw [ha] at z; cases z
          · rw [upd_back hua]
            have hi : i < ((cs.set i .un).set j .un).length := by
              rw [List.length_set, List.length_set]
              exact (List.getElem?_eq_some_iff.mp h0).1
            have st2 := st.set hi
            rw [list_set_self σ' i _ hsi] at st2
            have ec : ((cs.set i .un).set j .un).set i (.ow (.dt (.l .fz)) (.dict es')) = (cs.set j .un).set i (.ow (.dt (.l .fz)) (.dict es')) := by
              rw [List.set_comm _ _ hij, List.set_set]
            rw [ec] at st2
            exact q σ' J Hu st2 (.refl J) htk
      · cases hm
    · cases hm
  · cases hm
theorem sx_appAll {F : Fm} {fx : Nat} {x y : Str} {p1 p2 p3 p4 p5 p6 p7 p8 pos pos2 : Pos} {j0 : Nat} (i j : Nat) (hi : F.N[i]? = some x) (hj : F.N[j]? = some y) (hv : Vis F.sc x) (hy : Loc F.sc y) (hf : F.fn y = true ∨ F.sc.names.lookup y = some .local) (hl : fx ≤ j)
    (hd : (x == ("__debug__" : Str)) = false := by decide) (hcd : (x == ("__classdict__" : Str)) = false := by decide) (hd2 : (y == ("__debug__" : Str)) = false := by decide) (hcd2 : (y == ("__classdict__" : Str)) = false := by decide)
    (hline : (p5.endLine == p6.line) = true := by rfl) : SX F fx (.For (.Name y p1) (.Name x p2) [.Expr (.Call (.Attribute (.Subscript (.Name x p3) (.Name y p4) p8) "append" p5) [.Constant .none j0 p7] [] p6) pos] [] pos2) (mAppAll i j) := by
  refine ⟨tAppAll F.K i j, fun X hX => ps_unl ?_, b_appAll hl⟩
  have vx : ∀ {q : Pos}, PE X (.Name x q) (tVar i) := pe_var (by rw [F.hN X hX]; exact hi) (by rw [F.hsc X hX]; exact hv) hd hcd
  have vy : ∀ {q : Pos}, PE X (.Name y q) (tVar j) := pe_var (by rw [F.hN X hX]; exact hj) (by rw [F.hsc X hX]; exact hy.elim .inl fun z => .inr (.inl z)) hd2 hcd2
  rw [← F.hK X hX]
  exact ps_for (by rw [F.xe X hX]; exact PassesOwn.never) (F.calm X hX) (pi_K vx) (pg_name (by rw [F.hN X hX]; exact F.nd) (by rw [F.hN X hX]; exact hj) (by rw [F.hsc X hX]; exact hy) (by rw [F.hsc X hX, F.hfn X hX]; exact hf))
    (pss_one (ps_expr (pe_bm PySem.F.plainAttrs_list PySem.F.slot_list_append PySem.F.type_list_append mt_append (pe_dget (hu_of (F.room X hX)) vx vy (fun _ _ => rfl)) (pa_cons pe_non pa_nil) rfl rfl hline) rfl)) (fun _ => rfl)

/-! ### d[None] = [] -/
section
variable {prog : Program} {w : World} {A : Around} {E : Value → Shared → Prop} {s : Shared}
theorem hash_none {Q : Int → Shared → Prop} (hu : A.units + 1 < cLine) (h : Q (NestedKey.none.hash w) { s with toks := s.toks + NestedKey.none.draws }) : wpAny (model prog w) A (pyHash .none) Q E s :=
  pyHash_key .none .none A s Q .none (by simp [NestedKey.depth]; omega) h
theorem find_nohash {d : Addr} {o : Obj} {es : Array DictEntry} {ep : Nat} {h : Int} {Q : Option Nat → Shared → Prop} (ho : s.heap.get? d = some o) (hd : o.data = .dict es ep) (hn : ∀ e ∈ es, e.hash ≠ h) (q : Q none s) : wpAny (model prog w) A (dictFind d .none h) Q E s := by
  have hp : placesWithHash es.size (fun i => es[i]?.map (·.hash)) h = [] := by
    unfold placesWithHash
    refine List.filter_eq_nil_iff.mpr fun i hi => ?_
    have hi' : i < es.size := List.mem_range.mp hi
    show ¬ ((es[i]?.map (·.hash)) == some h) = true
    rw [Array.getElem?_eq_getElem hi']
    simpa using hn _ (Array.getElem_mem hi')
  unfold dictFind
  refine wpAny_holding ?_
  refine wpAny_bind (wpAny_dictEntries ho hd ?_)
  dsimp only
  rw [hp]
  exact wpAny_bind (wpAny_pure (wpAny_pure q))
end
def noneHash : Int := reduceHash 0xFCA86420
/-- a cell's key, whose hash is not None's -/
def smallK : D → Bool
  | .tuple [.int r, .int c] => decide (0 ≤ r) && decide (r < 16) && decide (0 ≤ c) && decide (c < 16)
  | _ => false
theorem cell_hash : ∀ r < 16, ∀ c < 16, reduceHash (Builtin.Tuple.tupleHashOf [hashInt (r : Nat), hashInt (c : Nat)]) ≠ noneHash := by decide +kernel
theorem small_hash {P : Program} {w : World} {k : List Key} (h : smallK (.tuple (k.map keyD)) = true) : tupleKeyHash (mixKind P w) k ≠ noneHash := by
  match k, h with
  | [.inl r, .inl c], h =>
    have h : (decide (0 ≤ r) && decide (r < 16) && decide (0 ≤ c) && decide (c < 16)) = true := h
    simp only [Bool.and_eq_true, decide_eq_true_eq] at h
    have := cell_hash r.toNat (by omega) c.toNat (by omega)
    rw [Int.toNat_of_nonneg h.1.1.1, Int.toNat_of_nonneg h.1.2] at this
    exact this
  | [], h => simp [smallK] at h
  | [_], h => cases ‹Key› <;> simp [smallK, keyD] at h
  | .inr _ :: _ :: _, h => simp [smallK, keyD] at h
  | .inl _ :: .inr _ :: _, h => simp [smallK, keyD] at h
  | .inl _ :: .inl _ :: _ :: _, h => simp [smallK, keyD] at h
def Any1 (a : Addr) : HO := .ext fun h => ∃ o, h.get? a = some o
def rNone : TSet := fun o i _ H Q => ∃ a kvs, o = .ref a ∧ i = .non ∧ H a = some (.dT kvs) ∧ kvs.length < sizeLine ∧ (∀ p ∈ kvs, smallK (.tuple (p.1.map keyD)) = true) ∧ Q (upd H a (Any1 a))
theorem set_none {X : Cx} (hu : X.A.units + 64 < cLine) : PSet X rNone := fun pins s σ H o i v ov iv u Q I ro ri rv h => by
  obtain ⟨a, kvs, rfl, rfl, ha, hl, hs, q⟩ := h
  cases ro
  cases (show iv = Value.none from ri)
  obtain ⟨z, hd, xs, rel, dd⟩ := dt_of I.hok ha
  obtain ⟨ob, es, ep, ho, hx, hdat, hes, his, hn⟩ := id dd
  have hz : es.size ≤ sizeLine := by
    have e := size_of_entries hes
    have e2 : kvs.length = xs.length := Paired.length rel
    omega
  have nohash : ∀ e ∈ es, e.hash ≠ noneHash := fun e he => by
    have hm : e ∈ xs.map (entryOfKey (tupleKind (mixKind X.prog X.w))) := hes ▸ Array.mem_toList_iff.mpr he
    obtain ⟨x, hxm, rfl⟩ := List.mem_map.mp hm
    obtain ⟨i, hi, hxi⟩ := List.getElem_of_mem hxm
    obtain ⟨p, hp, r1, _⟩ := L2.DX.pget rel (List.getElem?_eq_getElem hi)
    have := hs p (List.mem_of_getElem? hp)
    rw [r1, hxi] at this
    exact small_hash this
  unfold setItem
  refine wpAny_holding ?_
  refine wpAny_bind (wpAny_sequenceKey dd.typeIs (by decide) ?_)
  refine wpAny_bind (wpAny_callSpecial?_slot (name := Str.ofString "__setitem__") dd.typeIs PySem.F.slot_dict_setitem (wpAny_call_entry PySem.F.slot_dict_setitem dd.typeIs PySem.F.entry_dict_setitem ?_ (PySem.F.args_dict_setitem_3 _ _ _)))
  show wpAny _ _ (Builtin.Dict.notOrdered "__setitem__" ⟨[.ref a, .none, u], []⟩ >>= _) _ _ s
  refine wpAny_bind (wpAny_notOrdered_dict dd.typeIs ?_)
  show wpAny _ _ (dictSet a .none u >>= _) _ _ s
  refine wpAny_bind ?_
  unfold dictSet
  refine wpAny_holding ?_
  refine wpAny_bind (hash_none (A := X.A.in1) (by show X.A.units + 1 + 1 < _; omega) ?_)
  unfold dictSetHashed
  refine wpAny_holding ?_
  refine wpAny_bind (find_nohash (s := { s with toks := s.toks + NestedKey.none.draws }) ho hdat nohash ?_)
  refine wpAny_bind (wpAny_rule (wpAny_updateDictKeys (hz := hz) (s := { s with toks := s.toks + NestedKey.none.draws }) ho hdat ?_))
  have hget : ∃ q, (s.heap.update a (Obj.mapDictKeys (·.push ⟨noneHash, .none, u⟩))).get? a = some q := ⟨_, Heap.get?_update_self _ ho (by obtain ⟨c, d, dt, sl⟩ := ob; obtain ⟨rfl, rfl, rfl⟩ := hx; simp only at hdat; subst hdat; rfl)⟩
  have I2 : Inv X pins σ (upd H a (Any1 a)) { s with heap := s.heap.update a (Obj.mapDictKeys (·.push ⟨noneHash, .none, u⟩)), toks := s.toks + NestedKey.none.draws } :=
    I.write (x := a) (e := a) (by rw [ha]; exact True.intro) (.inl rfl) (fun b ob hb e => (Heap.get?_update_other _ _ (Ne.symm hb)).trans e) hget ⟨hget, hget, fun h1 h2 ⟨o, e⟩ k => ⟨o, k o e⟩⟩
  exact wpAny_pure ⟨.none, rfl, wpAny_pure ⟨_, I2, q⟩⟩
/-- an owned thing given up, one of its addresses rewritten -/
theorem Sta.spoil {K : PySem.W.Frag} {en : Ent} {cs : List Cell} {σ : L2.St} {J H : Hp} {s : Sh} {d : D} {v : V} {q : Addr} {u : HO} (st : Sta K en (.ow s d :: cs) (some v :: σ) J H) (hu : ∀ xs, u ≠ .tup xs) (h : ∀ F, Ow K J H s v d F → q ∈ F) : Sta K en cs σ J (upd H q u) := by
  obtain ⟨w, f, th, vw, G, h1, h2, h3⟩ := st
  cases h1 with
  | @ow _ _ _ F _ _ G r hs =>
    have hq := h F r
    obtain ⟨n1, n2, n3⟩ := List.nodup_append.mp h2
    obtain ⟨hj, ou, eo, _⟩ := r.at q hq
    refine ⟨w.put hj hu, fun a o e hn => ?_, fun a e => ?_, vw, G, hs.mono (.refl J) (fun a ha => upd_ne fun z => n3 q hq a ha z.symm) (fun a ha => (hs.at a ha).1), n2, fun a ha => h3 a (List.mem_append_right _ ha)⟩
    · by_cases z : a = q
      · subst z
        rcases h3 a (List.mem_append_left _ hq) with y | y
        · exact absurd y hn
        · rw [e] at y; cases y
      · rw [upd_ne z]; exact f a o e hn
    · by_cases z : a = q
      · subst z; rw [upd_same] at e; cases e
      · rw [upd_ne z] at e; exact th a e
def mPutNone (i : Nat) : MB := fun cs => match cs[i]? with
  | some (.ow (.dt _) (.dict es)) => if es.length < LIM ∧ (es.all fun e => smallK e.1) = true then some (.nx (cs.set i .un)) else none
  | _ => none
theorem All3T.small {R : V → D → List Addr → Prop} : ∀ {kvs : List (List Key × V)} {es : List (D × D)} {G : List Addr}, All3T R kvs es G → (es.all fun e => smallK e.1) = true → ∀ p ∈ kvs, smallK (.tuple (p.1.map keyD)) = true
  | _, _, _, .nil, _, p, hp => by cases hp
  | _, _, _, .cons (k := k) _ r, h, p, hp => by
    rw [List.all_cons, Bool.and_eq_true] at h
    rcases List.mem_cons.mp hp with e | e
    · subst e; exact h.1
    · exact All3T.small r h.2 p e
theorem b_putNone {K : PySem.W.Frag} {fx i : Nat} : B K fx (tAsg (tLst tNil) (gSub (tVar i) (tC .non) rNone)) (mPutNone i) := fun cs fl hm en σ J H s D q => by
  unfold mPutNone at hm
  split at hm
  · next sh es h0 =>
    split at hm
    · next hg =>
      cases hm
      obtain ⟨v, e0, s0⟩ := s.move h0
      refine ⟨Nat.zero_le _, fun p hp => ?_⟩
      have nD := Nw.own (o := .lst []) s.wf hp fun _ z => nomatch z
      have s1 := s0.nw nD
      obtain ⟨a, kvs, rfl, ha, hlen⟩ := s1.dtAt
      have hlen := hlen _ rfl
      have hL := lim_line
      have small : ∀ p ∈ kvs, smallK (.tuple (p.1.map keyD)) = true := by
        obtain ⟨_, _, _, _, _, z1, _, _⟩ := id s1
        cases z1 with
        | ow r _ =>
          obtain ⟨a', kvs', ds', G, q1, q2, q3, q4, q5, q6⟩ := r
          cases q1
          cases q2
          rw [ha] at q3
          cases q3
          exact q5.small hg.2
      refine ⟨.ref a, e0, a, kvs, rfl, rfl, ha, by omega, small, ?_⟩
      refine q σ J _ (s1.spoil (fun xs z => nomatch z) fun F hF => ?_) (.refl J) rfl
      obtain ⟨a', kvs', ds', G, q1, q2, q3, q4, q5, q6⟩ := hF
      cases q1
      rw [q6]
      exact List.mem_cons_self
    · cases hm
  · cases hm
theorem sx_putNone {F : Fm} {fx : Nat} {x : Str} {px pa pn pl pos : Pos} {j0 : Nat} (i : Nat) (hN : F.N[i]? = some x) (hv : Vis F.sc x) (hd : (x == ("__debug__" : Str)) = false := by decide) (hcd : (x == ("__classdict__" : Str)) = false := by decide) :
    SX F fx (.Assign [.Subscript (.Name x px) (.Constant .none j0 pn) pa] (.List [] pl) pos) (mPutNone i) :=
  ⟨_, fun X hX => ps_asg (pe_lst pa_nil) (pg_sub (pe_var (i := i) (by rw [F.hN X hX]; exact hN) (by rw [F.hsc X hX]; exact hv) hd hcd) pe_non (set_none (by have := (F.room X hX).un; omega))), b_putNone⟩
end Mi

/-! Mi27: parts of statements; the first rows of law and _law_open; defs under their names. -/
namespace Mi
open PySem PySem.Spec PyProof.Rows L2

def nthS (l : List Stmt) (n : Nat) : Stmt := l.getD n (.Pass ⟨0, 0, 0, 0⟩)
def forTg : Stmt → Expr
  | .For t .. => t
  | _ => .Constant .none 0 ⟨0, 0, 0, 0⟩
def forBody : Stmt → List Stmt
  | .For _ _ b .. => b
  | _ => []
def retVal : Stmt → Expr
  | .Return (some e) _ => e
  | _ => .Constant .none 0 ⟨0, 0, 0, 0⟩
section
variable {P : Program} {w : World} {K : PySem.W.Frag} {mg : Str → Option Value} {base : Heap} {k : Nat} {x : Str} {st : Stmt} {f : Addr} {fd : FuncData} {ps : List Str} {sp : Sq}
theorem cl_mk (F : Fun K x x st f fd) (mgf : mg x = some (.ref f)) (pr : Pr P w K mg base k f fd ps sp)
    (b : ∀ (kV doc pm : Value) (an : Option Addr) (cdv ct : Value) (us : List Value), us.length = ps.length → bindArgs (PySem.W.fnOf x x (defArgs st) (defBody st) (defScope st) .none kV doc pm an cdv ct) ⟨us, []⟩ = pure (ps.zip us)) : Cl P w K mg base x k ps sp :=
  ⟨f, fd, pr, mgf, F.kp, F.binds b⟩
/-- a promise that is never asked for -/
theorem pr_none (n : Nat) {g : List D → Option Cell} (hg : ∀ ds, g ds = none) (hn : ps.length = n) : Pr P w K mg base k f fd ps (spP K n g) :=
  ⟨fun vs H Q h => h.1.trans hn.symm, fun A around s H us vs Q _ _ _ _ _ ⟨_, J, ds, c, _, _, h, _⟩ => by rw [hg] at h; cases h⟩
end
section
variable {F : Fm} {go : List Int → Option Cell} {kk : Nat} {p1 p2 p3 p4 pos : Pos}
/-- pen = _law_open(script) -/
theorem ps_first (h : Fn F "_law_open" kk ["script"] (spOpen F.K go)) (hk : kk ≤ F.k) (hg : F.sc.names.lookup ("_law_open" : Str) = some .globalImplicit) (h0 : F.N[0]? = some ("script" : Str)) (h1 : F.N[1]? = some ("pen" : Str)) (v0 : Vis F.sc "script") (v1 : Loc F.sc "pen") (f1 : F.fn "pen" = true ∨ F.sc.names.lookup ("pen" : Str) = some .local) :
    ∀ X, F.mem X → PS X (.Assign [.Name "pen" p1] (.Call (.Name "_law_open" p2) [.Name "script" p3] [] p4) pos) (tAsg (tGo (spOpen F.K go) (tCons (tVar 0) tNil)) (gName 1)) := fun X hX =>
  ps_set (by rw [F.hN X hX]; exact F.nd) (by rw [F.hN X hX]; exact h1) (by rw [F.hsc X hX]; exact v1)
    (fn_go h hk hg (fun X hX => pa_cons (pe_var (by rw [F.hN X hX]; exact h0) (by rw [F.hsc X hX]; exact v0) (by decide) (by decide)) pa_nil) (by decide) (fun _ => rfl) (fun _ => rfl) X hX) rfl (by rw [F.hsc X hX, F.hfn X hX]; exact f1)
/-- cells = list(script[:12]) -/
theorem ps_opA {p5 p6 p7 : Pos} {j : Nat} (hg : F.sc.names.lookup ("list" : Str) = some .globalImplicit) (hm : F.mg "list" = none) (h0 : F.N[0]? = some ("script" : Str)) (h1 : F.N[1]? = some ("cells" : Str)) (v0 : Vis F.sc "script") (v1 : Loc F.sc "cells") (f1 : F.fn "cells" = true ∨ F.sc.names.lookup ("cells" : Str) = some .local) :
    ∀ X, F.mem X → PS X (.Assign [.Name "cells" p1] (.Call (.Name "list" p2) [.Subscript (.Name "script" p3) (.Slice none (some (.Constant (.int 12) j p4)) none p5) p6] [] p7) pos) (tAsg (tOpA F.K) (gName 1)) := fun X hX => by
  rw [← F.hK X hX]
  exact ps_set (by rw [F.hN X hX]; exact F.nd) (by rw [F.hN X hX]; exact h1) (by rw [F.hsc X hX]; exact v1)
    (pe_callTy call_list_of (by show X.env.scope.names.lookup _ = _; rw [F.hsc X hX]; exact hg) (by rw [F.hmg X hX]; exact hm) (by decide +kernel) (pa_cons (pe_slice sl_list (pe_var (by rw [F.hN X hX]; exact h0) (by rw [F.hsc X hX]; exact v0) (by decide) (by decide)) po_none (po_some pe_int)) pa_nil)) rfl (by rw [F.hsc X hX, F.hfn X hX]; exact f1)
/-- enumerate(script[12:63]) -/
theorem pi_opB {p5 p6 p7 pt : Pos} {j j2 k2 : Nat} {elts : List Expr} (hg : F.sc.names.lookup ("enumerate" : Str) = some .globalImplicit) (hm : F.mg "enumerate" = none) (h0 : F.N[0]? = some ("script" : Str)) (v0 : Vis F.sc "script") :
    ∀ X, F.mem X → PI X (.Tuple elts k2 pt) (.Call (.Name "enumerate" p1) [.Subscript (.Name "script" p2) (.Slice (some (.Constant (.int 12) j p3)) (some (.Constant (.int 63) j2 p4)) none p5) p6] [] p7) (iEn (tOpB F.K)) := fun X hX => by
  rw [← F.hK X hX]
  exact pi_en (by show X.env.scope.names.lookup _ = _; rw [F.hsc X hX]; exact hg) (by rw [F.hmg X hX]; exact hm) (pa_cons (pe_slice sl_list (pe_var (by rw [F.hN X hX]; exact h0) (by rw [F.hsc X hX]; exact v0) (by decide) (by decide)) (po_some pe_int) (po_some pe_int)) pa_nil) rfl
end
end Mi

namespace Mi
open PySem PySem.Spec PyProof.Rows L2
/-! the defs of the text -/
def topS (i : Nat) : Stmt := PySem.Challenge.pw_laidsheets_k03_covered_cells.main.body.getD i (.Pass ⟨0, 0, 0, 0⟩)
abbrev s_l_open : Stmt := topS 5
def n_l_open : List Str := ["script", "cells", "k", "cell"]
theorem sc_l_open : FnScope n_l_open ["script"] (defScope s_l_open) := ⟨rfl, rfl, rfl, by decide +kernel, rfl, by decide +kernel, by decide +kernel⟩
abbrev s_l_spread : Stmt := topS 6
def n_l_spread : List Str := ["cell", "at", "primes", "one", "two", "three"]
theorem sc_l_spread : FnScope n_l_spread ["cell", "at"] (defScope s_l_spread) := ⟨rfl, rfl, rfl, by decide +kernel, rfl, by decide +kernel, by decide +kernel⟩
abbrev s_l_take : Stmt := topS 7
def n_l_take : List Str := ["pen", "amount", "found", "at", "cell"]
theorem sc_l_take : FnScope n_l_take ["pen", "amount"] (defScope s_l_take) := ⟨rfl, rfl, rfl, by decide +kernel, rfl, by decide +kernel, by decide +kernel⟩
abbrev s_l_one_of : Stmt := topS 9
def n_l_one_of : List Str := ["pen", "some"]
theorem sc_l_one_of : FnScope n_l_one_of ["pen", "some"] (defScope s_l_one_of) := ⟨rfl, rfl, rfl, by decide +kernel, rfl, by decide +kernel, by decide +kernel⟩
abbrev s_l_alphabet : Stmt := topS 10
def n_l_alphabet : List Str := ["pen", "letters", "far"]
theorem sc_l_alphabet : FnScope n_l_alphabet ["pen"] (defScope s_l_alphabet) := ⟨rfl, rfl, rfl, by decide +kernel, rfl, by decide +kernel, by decide +kernel⟩
abbrev s_l_draw_picture : Stmt := topS 11
def n_l_draw_picture : List Str := ["pen", "rows", "columns", "letters", "k", "wild", "found", "signs", "j"]
theorem sc_l_draw_picture : FnScope n_l_draw_picture ["pen", "rows", "columns", "letters"] (defScope s_l_draw_picture) := ⟨rfl, rfl, rfl, by decide +kernel, rfl, by decide +kernel, by decide +kernel⟩
abbrev s_l_draw_pile : Stmt := topS 12
def n_l_draw_pile : List Str := ["pen", "many", "lines", "again", "rows", "columns", "letters", "sheets", "picture", "high", "wide"]
theorem sc_l_draw_pile : FnScope n_l_draw_pile ["pen", "many", "lines"] (defScope s_l_draw_pile) := ⟨rfl, rfl, rfl, by decide +kernel, rfl, by decide +kernel, by decide +kernel⟩
abbrev s_l_covered : Stmt := topS 13
def n_l_covered : List Str := ["pile", "found", "number", "sheet", "down", "line", "right", "sign", "cell"]
theorem sc_l_covered : FnScope n_l_covered ["pile"] (defScope s_l_covered) := ⟨rfl, rfl, rfl, by decide +kernel, rfl, by decide +kernel, by decide +kernel⟩
abbrev s_p_letters_of : Stmt := topS 2
def n_p_letters_of : List Str := ["sheet", "found", "row", "column", "picture", "down", "line", "right", "sign"]
theorem sc_p_letters_of : FnScope n_p_letters_of ["sheet"] (defScope s_p_letters_of) := ⟨rfl, rfl, rfl, by decide +kernel, rfl, by decide +kernel, by decide +kernel⟩
abbrev s_p_covered : Stmt := topS 3
def n_p_covered : List Str := ["pile", "found", "number", "sheet", "cell", "letter"]
theorem sc_p_covered : FnScope n_p_covered ["pile"] (defScope s_p_covered) := ⟨rfl, rfl, rfl, by decide +kernel, rfl, by decide +kernel, by decide +kernel⟩
abbrev s_l_same : Stmt := topS 8
def n_l_same : List Str := ["found", "due", "one", "other"]
theorem sc_l_same : FnScope n_l_same ["found", "due"] (defScope s_l_same) := ⟨rfl, rfl, rfl, by decide +kernel, rfl, by decide +kernel, by decide +kernel⟩
abbrev s_law : Stmt := topS 14
def n_law : List Str := ["script", "pen", "turn", "pile", "again", "due", "text", "found", "cell"]
theorem sc_law : FnScope n_law ["script"] (defScope s_law) := ⟨rfl, rfl, rfl, by decide +kernel, rfl, by decide +kernel, by decide +kernel⟩
def m_l_spread : MB :=
    (mSeq (mIfS (mTest (mOp geD (mVar 0) (mOp powD (mC (.int 10)) (mC (.int 18))))) (mRet (mVar 0)) mNx)
    (mSeq (mSet 2 (mLst (mCons (mC (.int 2147483629)) (mCons (mC (.int 2147483587)) (mCons (mC (.int 2147483579)) (mCons (mC (.int 2147483563)) (mCons (mC (.int 2147483549)) (mCons (mC (.int 2147483543)) (mCons (mC (.int 2147483497)) (mCons (mC (.int 2147483489)) mNil))))))))))
    (mSeq (mSet 2 (mOp addD (mVar 2) (mLst (mCons (mC (.int 2147483477)) (mCons (mC (.int 2147483423)) (mCons (mC (.int 2147483399)) (mCons (mC (.int 2147483353)) (mCons (mC (.int 2147483323)) mNil))))))))
    (mSeq (mSet 3 (mOp addD (mOp addD (mOp mulD (mOp modD (mCall intD (mCons (mVar 0) mNil)) (mC (.int 1000000007))) (mOp addD (mOp mulD (mC (.int 2)) (mVar 1)) (mC (.int 69069)))) (mOp mulD (mVar 1) (mC (.int 40503)))) (mC (.int 977))))
    (mSeq (mSet 3 (mOp modD (mCall intD (mCons (mOp powD (mVar 3) (mC (.int 3))) mNil)) (mOp ixD (mVar 2) (mOp modD (mCall intD (mCons (mVar 1) mNil)) (mC (.int 13))))))
    (mSeq (mSet 4 (mOp modD (mCall intD (mCons (mOp powD (mOp addD (mOp addD (mOp mulD (mVar 3) (mOp addD (mVar 1) (mC (.int 3)))) (mOp modD (mCall intD (mCons (mVar 0) mNil)) (mC (.int 65537)))) (mC (.int 5))) (mC (.int 5))) mNil)) (mOp ixD (mVar 2) (mOp modD (mCall intD (mCons (mOp addD (mVar 1) (mC (.int 5))) mNil)) (mC (.int 13))))))
    (mSeq (mSet 5 (mOp modD (mCall intD (mCons (mOp powD (mOp addD (mOp addD (mVar 4) (mOp modD (mCall intD (mCons (mVar 3) mNil)) (mC (.int 1009)))) (mVar 1)) (mC (.int 3))) mNil)) (mOp ixD (mVar 2) (mOp modD (mCall intD (mCons (mOp addD (mVar 1) (mC (.int 7))) mNil)) (mC (.int 13))))))
    (mRet (mOp addD (mOp mulD (mOp addD (mOp mulD (mVar 3) (mC (.int 2147483647))) (mVar 4)) (mC (.int 2147483647))) (mVar 5))))))))))
def f_l_spread := fnP m_l_spread 6
def m_l_take : MB :=
    (mSeq (mIfS (mVolT (mTest (mOp ltD (mOp ixD (mVar 0) (mC (.int 2))) (mVar 1)))) (mSeq (mSet 3 (mVol (mOp ixD (mVar 0) (mC (.int 1)))))
    (mSeq (mSet 4 (mC (.int 0)))
    (mSeq (mIfS (mVolT (mTest (mOp ltD (mVar 3) (mCall lenD (mCons (mOp ixD (mVar 0) (mC (.int 0))) mNil))))) (mSet 4 (mVol (mOp ixD (mOp ixD (mVar 0) (mC (.int 0))) (mVar 3)))) (mIfS (mVolT (mTest (mOp gtD (mCall lenD (mCons (mOp ixD (mVar 0) (mC (.int 0))) mNil)) (mC (.int 0))))) (mSet 4 (mVol (mOp modD (mCall intD (mCons (mOp ixD (mOp ixD (mVar 0) (mC (.int 0))) (mOp modD (mCall intD (mCons (mOp addD (mOp mulD (mVar 3) (mC (.int 5))) (mC (.int 3))) mNil)) (mCall lenD (mCons (mOp ixD (mVar 0) (mC (.int 0))) mNil)))) mNil)) (mOp addD (mOp powD (mC (.int 10)) (mC (.int 17))) (mVar 3))))) mNx))
    (mSeq (mStore 0 (mC (.int 1)) (mOp addD (mVar 3) (mC (.int 1))))
    (mStore 0 (mC (.int 2)) (mFrz (mCallP f_l_spread (mCons (mVar 4) (mCons (mVar 3) mNil))))))))) mNx)
    (mSeq (mSet 2 (mVol (mOp modD (mCall intD (mCons (mOp ixD (mVar 0) (mC (.int 2))) mNil)) (mVar 1))))
    (mSeq (mStore 0 (mC (.int 2)) (mVol (mOp fdivD (mOp ixD (mVar 0) (mC (.int 2))) (mVar 1))))
    (mRet (mVar 2)))))
def f_l_take := fnQ m_l_take 5
def m_l_one_of : MB :=
    (mRet (mOp ixD (mVar 1) (mCallQ f_l_take 0 (mCons (mCall lenD (mCons (mVar 1) mNil)) mNil))))
def f_l_one_of := fnQ m_l_one_of 2
def m_l_alphabet : MB :=
    (mSeq (mPar [1, 2] (acCons (mC (.str (Str.ofString "abcdefghijklmnopqrstuvwxyz"))) (acCons (mCallQ f_l_take 0 (mCons (mC (.int 26)) mNil)) acNil)))
    (mRet (mSl (mOp addD (mVar 1) (mVar 1)) (mOSome (mVar 2)) (mOSome (mOp addD (mVar 2) (mCallQ f_l_one_of 0 (mCons (mLst (mCons (mC (.int 1)) (mCons (mC (.int 2)) (mCons (mC (.int 3)) (mCons (mC (.int 3)) (mCons (mC (.int 5)) mNil)))))) mNil)))))))
def f_l_alphabet := fnQ m_l_alphabet 3
def m_l_draw_picture : MB :=
    (mSeq (mPar [5, 6] (acCons (mCallQ f_l_one_of 0 (mCons (mLst (mCons (mC (.int 2)) (mCons (mC (.int 5)) (mCons (mC (.int 99)) mNil)))) mNil)) (acCons (mLstO mNil) acNil)))
    (mSeq (mFor (iRg1M (mCons (mVar 1) mNil)) (mgName 4) (mSeq (mSet 7 (mFrzP (mLcO [8] (iRg1M (mCons (mVar 2) mNil)) (mgName 8) mYes (mIf (mTest (mOp eqD (mCallQ f_l_take 0 (mCons (mVar 5) mNil)) (mC (.int 0)))) (mC (.str (Str.ofString "."))) (mCallQ f_l_one_of 0 (mCons (mCall listD3 (mCons (mVar 3) mNil)) mNil))))))
    (mAppend 6 (mMeth joinD (mC (.str (Str.ofString ""))) (mCons (mVar 7) mNil)))))
    (mSeq (mIfS (mVolT (mTest (mOp eqD (mMeth stripD (mMeth joinD (mC (.str (Str.ofString ""))) (mCons (mVar 6) mNil)) (mCons (mC (.str (Str.ofString "."))) mNil)) (mC (.str (Str.ofString "")))))) (mStore 6 (mC (.int 0)) (mVol (mOp addD (mOp ixD (mVar 3) (mC (.int 0))) (mSl (mOp ixD (mVar 6) (mC (.int 0))) (mOSome (mC (.int 1))) mONo)))) mNx)
    (mRet (mCall tupleD (mCons (mFrzV 6) mNil))))))
def f_l_draw_picture := fnQ m_l_draw_picture 9
def m_l_draw_pile : MB :=
    (mSeq (mPar [4, 5] (acCons (mOp addD (mC (.int 1)) (mCallQ f_l_take 0 (mCons (mVar 2) mNil))) (acCons (mOp addD (mC (.int 1)) (mCallQ f_l_take 0 (mCons (mVar 2) mNil))) acNil)))
    (mSeq (mPar [6, 7] (acCons (mCallQ f_l_alphabet 0 mNil) (acCons (mLstO mNil) acNil)))
    (mSeq (mFor (iRg1M (mCons (mOp addD (mC (.int 1)) (mCallQ f_l_take 0 (mCons (mVar 1) mNil))) mNil)) (mgName 3) (mSeq (mPar [9, 10] (acCons (mOp addD (mC (.int 1)) (mCallQ f_l_take 0 (mCons (mVar 4) mNil))) (acCons (mOp addD (mC (.int 1)) (mCallQ f_l_take 0 (mCons (mVar 5) mNil))) acNil)))
    (mSeq (mSet 8 (mCallQ f_l_draw_picture 0 (mCons (mVar 9) (mCons (mVar 10) (mCons (mVar 6) mNil)))))
    (mAppend 7 (mTup (mCons (mCallQ f_l_take 0 (mCons (mOp addD (mOp subD (mVar 4) (mVar 9)) (mC (.int 1))) mNil)) (mCons (mCallQ f_l_take 0 (mCons (mOp addD (mOp subD (mVar 5) (mVar 10)) (mC (.int 1))) mNil)) (mCons (mVar 8) mNil))))))))
    (mRet (mTup (mCons (mVar 4) (mCons (mVar 5) (mCons (mCall tupleD (mCons (mFrzV 7) mNil)) mNil))))))))
def f_l_draw_pile := fnQ m_l_draw_pile 11
def m_l_covered : MB :=
    (mSeq (mSet 1 (mDts .fz))
    (mSeq (mFor (iEnM (mCons (mOp ixD (mVar 0) (mC (.int 2))) mNil)) (mgTup 2 (mgCons (mgName 2) (mgCons (mgName 3) mgNil))) (mFor (iEnM (mCons (mOp ixD (mVar 3) (mC (.int 2))) mNil)) (mgTup 2 (mgCons (mgName 4) (mgCons (mgName 5) mgNil))) (mFor (iEnM (mCons (mVar 5) mNil)) (mgTup 2 (mgCons (mgName 6) (mgCons (mgName 7) mgNil))) (mIfS (mTest (mOp neD (mVar 7) (mC (.str (Str.ofString "."))))) (mSeq (mSet 8 (mTup (mCons (mOp addD (mOp ixD (mVar 3) (mC (.int 0))) (mVar 4)) (mCons (mOp addD (mOp ixD (mVar 3) (mC (.int 1))) (mVar 6)) mNil))))
    (mStore 1 (mVar 8) (mOp addD (mGetO 1 (mVar 8) (mLst mNil)) (mLst (mCons (mTup (mCons (mVar 2) (mCons (mVar 7) mNil))) mNil))))) mNx))))
    (mRet (mMove 1))))
def f_l_covered := fnP m_l_covered 9
def m_p_letters_of : MB :=
    (mSeq (mAsg (mVar 0) (mgTup 3 (mgCons (mgName 2) (mgCons (mgName 3) (mgCons (mgName 4) mgNil)))))
    (mSeq (mSet 1 (mDts .fz))
    (mSeq (mFor (iEnM (mCons (mVar 4) mNil)) (mgTup 2 (mgCons (mgName 5) (mgCons (mgName 6) mgNil))) (mFor (iEnM (mCons (mVar 6) mNil)) (mgTup 2 (mgCons (mgName 7) (mgCons (mgName 8) mgNil))) (mIfS (mTest (mOp neD (mVar 8) (mC (.str (Str.ofString "."))))) (mStore 1 (mTup (mCons (mOp addD (mVar 2) (mVar 5)) (mCons (mOp addD (mVar 3) (mVar 7)) mNil))) (mVar 8)) mNx)))
    (mRet (mMove 1)))))
def f_p_letters_of := fnP m_p_letters_of 9
def m_p_covered : MB :=
    (mSeq (mSet 1 (mDts (.l .fz)))
    (mSeq (mFor (iEnM (mCons (mOp ixD (mVar 0) (mC (.int 2))) mNil)) (mgTup 2 (mgCons (mgName 2) (mgCons (mgName 3) mgNil))) (mFor (iItM (mFrz (mCallP f_p_letters_of (mCons (mVar 3) mNil)))) (mgTup 2 (mgCons (mgName 4) (mgCons (mgName 5) mgNil))) (mSdApp 1 (mVar 4) (mTup (mCons (mVar 2) (mCons (mVar 5) mNil))))))
    (mRet (mMove 1))))
def f_p_covered := fnP m_p_covered 6
def m_l_same (n_ : List D → Option Cell) : MB :=
    (mSeq (mIfS (mOr (mTest (mOp isD (mVar 1) (mC .none))) (mTest (mOp isD (mVar 0) (mC .none)))) (mRet (mAndV (mOp isD (mVar 1) (mC .none)) (mOp isD (mVar 0) (mC .none)))) mNx)
    (mSeq (mIfS (mOr (mTest (mIs ["bool"] (mVar 1))) (mTest (mIs ["bool"] (mVar 0)))) (mRet (mAndV (mIs ["bool"] (mVar 1)) (mAndV (mIs ["bool"] (mVar 0)) (mOp eqD (mVar 0) (mVar 1))))) mNx)
    (mSeq (mIfS (mTest (mIs ["int", "str"] (mVar 1))) (mSeq (mIfS (mTest (mOp neD (mIs ["int"] (mVar 0)) (mIs ["int"] (mVar 1)))) (mRet (mC (.bool false))) mNx)
    (mRet (mAndV (mIs ["int", "str"] (mVar 0)) (mOp eqD (mVar 0) (mVar 1))))) mNx)
    (mSeq (mIfS (mOr (mTest (mOp neD (mIs ["tuple"] (mVar 1)) (mIs ["tuple"] (mVar 0)))) (mTest (mOp neD (mIs ["list"] (mVar 1)) (mIs ["list"] (mVar 0))))) (mRet (mC (.bool false))) mNx)
    (mSeq (mIfS (mTest (mOp neD (mCall lenD (mCons (mVar 0) mNil)) (mCall lenD (mCons (mVar 1) mNil)))) (mRet (mC (.bool false))) mNx)
    (mRet (mOp ninD (mC (.bool false)) (mFrzP (mLcO [2, 3] (iZpM (mCons (mVar 0) (mCons (mVar 1) mNil))) (mgTup 2 (mgCons (mgName 2) (mgCons (mgName 3) mgNil))) mYes (mFrz (mCallP n_ (mCons (mVar 2) (mCons (mVar 3) mNil)))))))))))))
def f_l_same : Nat → List D → Option Cell
  | 0, _ => none
  | n + 1, ds => fnP (m_l_same (f_l_same n)) 4 ds
def m_law : MB :=
    (mSeq (mFor (iRg1M (mCons (mC (.int 6)) mNil)) (mgName 2) (mSeq (mSet 3 (mCallQ f_l_draw_pile 1 (mCons (mC (.int 10)) (mCons (mCallQ f_l_one_of 1 (mCons (mLst (mCons (mC (.int 2)) (mCons (mC (.int 4)) (mCons (mC (.int 8)) mNil)))) mNil)) mNil))))
    (mSeq (mPar [5, 6] (acCons (mFrz (mCallP f_l_covered (mCons (mVar 3) mNil))) (acCons (mCall reprD (mCons (mVar 3) mNil)) acNil)))
    (mFor (iRg1M (mCons (mC (.int 2)) mNil)) (mgName 4) (mSeq (mSet 7 (mCallP f_p_covered (mCons (mVar 3) mNil)))
    (mSeq (mIfS (mVolT (mOr (mNot (mTest (mIs ["dict"] (mVar 7)))) (mOr (mTest (mOp neD (mCall sortedD (mCons (mVar 7) mNil)) (mCall sortedD (mCons (mVar 5) mNil)))) (mTest (mOp neD (mCall reprD (mCons (mVar 3) mNil)) (mVar 6)))))) (mRet (mC (.bool false))) mNx)
    (mSeq (mIfS (mVolT (mNot (mTest (mFrz (mCallP (f_l_same 8) (mCons (mFrzP (mLcO [8] (iSeqM (mCall sortedD (mCons (mVar 7) mNil))) (mgName 8) mYes (mOp ixD (mVar 7) (mVar 8)))) (mCons (mFrzP (mLcO [8] (iSeqM (mCall sortedD (mCons (mVar 5) mNil))) (mgName 8) mYes (mOp ixD (mVar 5) (mVar 8)))) mNil))))))) (mRet (mC (.bool false))) mNx)
    (mSeq (mAppAll 7 8)
    (mSeq (mIfS (mVolT (mTest (mOp neD (mFrzP (mLcO [8] (iKyM (mVar 7)) (mgName 8) (mTest (mOp neD (mMeth countD (mOp ixD (mVar 7) (mVar 8)) (mCons (mC .none) mNil)) (mC (.int 1)))) (mVar 8))) (mLst mNil)))) (mRet (mC (.bool false))) mNx)
    (mPutNone 7))))))))))
    (mRet (mC (.bool true))))
section
variable {P : Program} {w : World} {K : PySem.W.Frag} {mg : Str → Option Value} {base : Heap}
set_option maxRecDepth 100000 in
theorem d_l_spread  (z_int : mg "int" = none)  : SsX (Fm.ofDef P w K mg base n_l_spread (defScope s_l_spread) (0) sc_l_spread.nd) 0 (defBody s_l_spread) m_l_spread :=
  (sx_cons (sx_if (p := false) (tx_cmp (fun _ _ => op_geD) (ex_var 0 rfl (vis_of rfl) (by decide) (by decide)) (ex_op (fun _ => op_powD) ex_int ex_int) (by rfl)) (sx_one (sx_ret (p := false) (ex_var 0 rfl (vis_of rfl) (by decide) (by decide)))) sx_nil)
    (sx_cons (sx_set (p := false) 2 rfl (loc_of rfl) (lcl_of rfl) (by decide) (ex_lst (ax_cons ex_int (ax_cons ex_int (ax_cons ex_int (ax_cons ex_int (ax_cons ex_int (ax_cons ex_int (ax_cons ex_int (ax_cons ex_int ax_nil (fun _ => rfl)) (fun _ => rfl)) (fun _ => rfl)) (fun _ => rfl)) (fun _ => rfl)) (fun _ => rfl)) (fun _ => rfl)) (fun _ => rfl))))
    (sx_cons (sx_set (p := false) 2 rfl (loc_of rfl) (lcl_of rfl) (by decide) (ex_op (fun _ => op_addD) (ex_var 2 rfl (vis_of rfl) (by decide) (by decide)) (ex_lst (ax_cons ex_int (ax_cons ex_int (ax_cons ex_int (ax_cons ex_int (ax_cons ex_int ax_nil (fun _ => rfl)) (fun _ => rfl)) (fun _ => rfl)) (fun _ => rfl)) (fun _ => rfl)))))
    (sx_cons (sx_set (p := false) 3 rfl (loc_of rfl) (lcl_of rfl) (by decide) (ex_op (fun _ => op_addD) (ex_op (fun _ => op_addD) (ex_op (fun _ => op_mulD) (ex_op (fun _ => op_modD) (ex_callTy (fun _ _ => call_intD) rfl z_int (by decide +kernel) (ax_cons (ex_var 0 rfl (vis_of rfl) (by decide) (by decide)) ax_nil (fun _ => rfl)) (by decide) (by decide) (fun _ => rfl) (fun _ => rfl)) ex_int) (ex_op (fun _ => op_addD) (ex_op (fun _ => op_mulD) ex_int (ex_var 1 rfl (vis_of rfl) (by decide) (by decide))) ex_int)) (ex_op (fun _ => op_mulD) (ex_var 1 rfl (vis_of rfl) (by decide) (by decide)) ex_int)) ex_int))
    (sx_cons (sx_set (p := false) 3 rfl (loc_of rfl) (lcl_of rfl) (by decide) (ex_op (fun _ => op_modD) (ex_callTy (fun _ _ => call_intD) rfl z_int (by decide +kernel) (ax_cons (ex_op (fun _ => op_powD) (ex_var 3 rfl (vis_of rfl) (by decide) (by decide)) ex_int) ax_nil (fun _ => rfl)) (by decide) (by decide) (fun _ => rfl) (fun _ => rfl)) (ex_ix (ex_var 2 rfl (vis_of rfl) (by decide) (by decide)) (ex_op (fun _ => op_modD) (ex_callTy (fun _ _ => call_intD) rfl z_int (by decide +kernel) (ax_cons (ex_var 1 rfl (vis_of rfl) (by decide) (by decide)) ax_nil (fun _ => rfl)) (by decide) (by decide) (fun _ => rfl) (fun _ => rfl)) ex_int) (fun _ _ => rfl))))
    (sx_cons (sx_set (p := false) 4 rfl (loc_of rfl) (lcl_of rfl) (by decide) (ex_op (fun _ => op_modD) (ex_callTy (fun _ _ => call_intD) rfl z_int (by decide +kernel) (ax_cons (ex_op (fun _ => op_powD) (ex_op (fun _ => op_addD) (ex_op (fun _ => op_addD) (ex_op (fun _ => op_mulD) (ex_var 3 rfl (vis_of rfl) (by decide) (by decide)) (ex_op (fun _ => op_addD) (ex_var 1 rfl (vis_of rfl) (by decide) (by decide)) ex_int)) (ex_op (fun _ => op_modD) (ex_callTy (fun _ _ => call_intD) rfl z_int (by decide +kernel) (ax_cons (ex_var 0 rfl (vis_of rfl) (by decide) (by decide)) ax_nil (fun _ => rfl)) (by decide) (by decide) (fun _ => rfl) (fun _ => rfl)) ex_int)) ex_int) ex_int) ax_nil (fun _ => rfl)) (by decide) (by decide) (fun _ => rfl) (fun _ => rfl)) (ex_ix (ex_var 2 rfl (vis_of rfl) (by decide) (by decide)) (ex_op (fun _ => op_modD) (ex_callTy (fun _ _ => call_intD) rfl z_int (by decide +kernel) (ax_cons (ex_op (fun _ => op_addD) (ex_var 1 rfl (vis_of rfl) (by decide) (by decide)) ex_int) ax_nil (fun _ => rfl)) (by decide) (by decide) (fun _ => rfl) (fun _ => rfl)) ex_int) (fun _ _ => rfl))))
    (sx_cons (sx_set (p := false) 5 rfl (loc_of rfl) (lcl_of rfl) (by decide) (ex_op (fun _ => op_modD) (ex_callTy (fun _ _ => call_intD) rfl z_int (by decide +kernel) (ax_cons (ex_op (fun _ => op_powD) (ex_op (fun _ => op_addD) (ex_op (fun _ => op_addD) (ex_var 4 rfl (vis_of rfl) (by decide) (by decide)) (ex_op (fun _ => op_modD) (ex_callTy (fun _ _ => call_intD) rfl z_int (by decide +kernel) (ax_cons (ex_var 3 rfl (vis_of rfl) (by decide) (by decide)) ax_nil (fun _ => rfl)) (by decide) (by decide) (fun _ => rfl) (fun _ => rfl)) ex_int)) (ex_var 1 rfl (vis_of rfl) (by decide) (by decide))) ex_int) ax_nil (fun _ => rfl)) (by decide) (by decide) (fun _ => rfl) (fun _ => rfl)) (ex_ix (ex_var 2 rfl (vis_of rfl) (by decide) (by decide)) (ex_op (fun _ => op_modD) (ex_callTy (fun _ _ => call_intD) rfl z_int (by decide +kernel) (ax_cons (ex_op (fun _ => op_addD) (ex_var 1 rfl (vis_of rfl) (by decide) (by decide)) ex_int) ax_nil (fun _ => rfl)) (by decide) (by decide) (fun _ => rfl) (fun _ => rfl)) ex_int) (fun _ _ => rfl))))
    (sx_one (sx_ret (p := false) (ex_op (fun _ => op_addD) (ex_op (fun _ => op_mulD) (ex_op (fun _ => op_addD) (ex_op (fun _ => op_mulD) (ex_var 3 rfl (vis_of rfl) (by decide) (by decide)) ex_int) (ex_var 4 rfl (vis_of rfl) (by decide) (by decide))) ex_int) (ex_var 5 rfl (vis_of rfl) (by decide) (by decide))))))))))))
set_option maxRecDepth 100000 in
theorem d_l_take (c_l_spread : Cl P w K mg base "_law_spread" (1) ["cell", "at"] (spP K 2 f_l_spread)) (z_int : mg "int" = none) (z_len : mg "len" = none)  : SsX (Fm.ofDef P w K mg base n_l_take (defScope s_l_take) (1) sc_l_take.nd) 1 (defBody s_l_take) m_l_take :=
  (sx_cons (sx_if (p := false) (tx_vol (tx_cmp (fun _ _ => op_ltD) (ex_ix (ex_var 0 rfl (vis_of rfl) (by decide) (by decide)) ex_int (fun _ _ => rfl)) (ex_var 1 rfl (vis_of rfl) (by decide) (by decide)) (by rfl))) (sx_cons (sx_set (p := false) 3 rfl (loc_of rfl) (lcl_of rfl) (by decide) (ex_vol (ex_ix (ex_var 0 rfl (vis_of rfl) (by decide) (by decide)) ex_int (fun _ _ => rfl))))
    (sx_cons (sx_set (p := false) 4 rfl (loc_of rfl) (lcl_of rfl) (by decide) ex_int)
    (sx_cons (sx_if (p := false) (tx_vol (tx_cmp (fun _ _ => op_ltD) (ex_var 3 rfl (vis_of rfl) (by decide) (by decide)) (ex_callB (fun _ _ => call_lenD) rfl z_len (by decide +kernel) (ax_cons (ex_ix (ex_var 0 rfl (vis_of rfl) (by decide) (by decide)) ex_int (fun _ _ => rfl)) ax_nil (fun _ => rfl)) (by decide) (by decide) (fun _ => rfl) (fun _ => rfl)) (by rfl))) (sx_one (sx_set (p := false) 4 rfl (loc_of rfl) (lcl_of rfl) (by decide) (ex_vol (ex_ix (ex_ix (ex_var 0 rfl (vis_of rfl) (by decide) (by decide)) ex_int (fun _ _ => rfl)) (ex_var 3 rfl (vis_of rfl) (by decide) (by decide)) (fun _ _ => rfl))))) (sx_one (sx_if (p := false) (tx_vol (tx_cmp (fun _ _ => op_gtD) (ex_callB (fun _ _ => call_lenD) rfl z_len (by decide +kernel) (ax_cons (ex_ix (ex_var 0 rfl (vis_of rfl) (by decide) (by decide)) ex_int (fun _ _ => rfl)) ax_nil (fun _ => rfl)) (by decide) (by decide) (fun _ => rfl) (fun _ => rfl)) ex_int (by rfl))) (sx_one (sx_set (p := false) 4 rfl (loc_of rfl) (lcl_of rfl) (by decide) (ex_vol (ex_op (fun _ => op_modD) (ex_callTy (fun _ _ => call_intD) rfl z_int (by decide +kernel) (ax_cons (ex_ix (ex_ix (ex_var 0 rfl (vis_of rfl) (by decide) (by decide)) ex_int (fun _ _ => rfl)) (ex_op (fun _ => op_modD) (ex_callTy (fun _ _ => call_intD) rfl z_int (by decide +kernel) (ax_cons (ex_op (fun _ => op_addD) (ex_op (fun _ => op_mulD) (ex_var 3 rfl (vis_of rfl) (by decide) (by decide)) ex_int) ex_int) ax_nil (fun _ => rfl)) (by decide) (by decide) (fun _ => rfl) (fun _ => rfl)) (ex_callB (fun _ _ => call_lenD) rfl z_len (by decide +kernel) (ax_cons (ex_ix (ex_var 0 rfl (vis_of rfl) (by decide) (by decide)) ex_int (fun _ _ => rfl)) ax_nil (fun _ => rfl)) (by decide) (by decide) (fun _ => rfl) (fun _ => rfl))) (fun _ _ => rfl)) ax_nil (fun _ => rfl)) (by decide) (by decide) (fun _ => rfl) (fun _ => rfl)) (ex_op (fun _ => op_addD) (ex_op (fun _ => op_powD) ex_int ex_int) (ex_var 3 rfl (vis_of rfl) (by decide) (by decide))))))) sx_nil)))
    (sx_cons (sx_store (p := false) 0 rfl (vis_of rfl) ex_int (ex_op (fun _ => op_addD) (ex_var 3 rfl (vis_of rfl) (by decide) (by decide)) ex_int))
    (sx_one (sx_store (p := false) 0 rfl (vis_of rfl) ex_int (ex_callP ⟨c_l_spread.ex⟩ (lvl_of rfl) rfl (axn_cons (ex_var 4 rfl (vis_of rfl) (by decide) (by decide)) (axn_cons (ex_var 3 rfl (vis_of rfl) (by decide) (by decide)) axn_nil))))))))) sx_nil)
    (sx_cons (sx_set (p := false) 2 rfl (loc_of rfl) (lcl_of rfl) (by decide) (ex_vol (ex_op (fun _ => op_modD) (ex_callTy (fun _ _ => call_intD) rfl z_int (by decide +kernel) (ax_cons (ex_ix (ex_var 0 rfl (vis_of rfl) (by decide) (by decide)) ex_int (fun _ _ => rfl)) ax_nil (fun _ => rfl)) (by decide) (by decide) (fun _ => rfl) (fun _ => rfl)) (ex_var 1 rfl (vis_of rfl) (by decide) (by decide)))))
    (sx_cons (sx_store (p := false) 0 rfl (vis_of rfl) ex_int (ex_vol (ex_op (fun _ => op_fdivD) (ex_ix (ex_var 0 rfl (vis_of rfl) (by decide) (by decide)) ex_int (fun _ _ => rfl)) (ex_var 1 rfl (vis_of rfl) (by decide) (by decide)))))
    (sx_one (sx_ret (p := false) (ex_var 2 rfl (vis_of rfl) (by decide) (by decide)))))))
set_option maxRecDepth 100000 in
theorem d_l_one_of (c_l_take : Cl P w K mg base "_law_take" (2) ["pen", "amount"] (spQ K 2 f_l_take)) (z_len : mg "len" = none)  : SsX (Fm.ofDef P w K mg base n_l_one_of (defScope s_l_one_of) (2) sc_l_one_of.nd) 1 (defBody s_l_one_of) m_l_one_of :=
  (sx_one (sx_ret (p := false) (ex_ix (ex_var 1 rfl (vis_of rfl) (by decide) (by decide)) (ex_callQ 0 ⟨c_l_take.ex⟩ (lvl_of rfl) rfl rfl (vis_of rfl) (axn_cons (ex_callB (fun _ _ => call_lenD) rfl z_len (by decide +kernel) (ax_cons (ex_var 1 rfl (vis_of rfl) (by decide) (by decide)) ax_nil (fun _ => rfl)) (by decide) (by decide) (fun _ => rfl) (fun _ => rfl)) axn_nil)) (fun _ _ => rfl))))
set_option maxRecDepth 100000 in
theorem d_l_alphabet (c_l_take : Cl P w K mg base "_law_take" (2) ["pen", "amount"] (spQ K 2 f_l_take)) (c_l_one_of : Cl P w K mg base "_law_one_of" (3) ["pen", "some"] (spQ K 2 f_l_one_of))   : SsX (Fm.ofDef P w K mg base n_l_alphabet (defScope s_l_alphabet) (3) sc_l_alphabet.nd) 1 (defBody s_l_alphabet) m_l_alphabet :=
  (sx_cons (sx_par2 1 2 rfl rfl (by decide) rfl rfl (by decide) (acx_cons (p := false) ex_str (acx_cons (p := false) (ex_callQ 0 ⟨c_l_take.ex⟩ (lvl_of rfl) rfl rfl (vis_of rfl) (axn_cons ex_int axn_nil)) acx_nil)) (by rfl))
    (sx_one (sx_ret (p := false) (ex_sl (ex_op (fun _ => op_addD) (ex_var 1 rfl (vis_of rfl) (by decide) (by decide)) (ex_var 1 rfl (vis_of rfl) (by decide) (by decide))) (ox_some (ex_var 2 rfl (vis_of rfl) (by decide) (by decide))) (ox_some (ex_op (fun _ => op_addD) (ex_var 2 rfl (vis_of rfl) (by decide) (by decide)) (ex_callQ 0 ⟨c_l_one_of.ex⟩ (lvl_of rfl) rfl rfl (vis_of rfl) (axn_cons (ex_lst (ax_cons ex_int (ax_cons ex_int (ax_cons ex_int (ax_cons ex_int (ax_cons ex_int ax_nil (fun _ => rfl)) (fun _ => rfl)) (fun _ => rfl)) (fun _ => rfl)) (fun _ => rfl))) axn_nil))))))))
set_option maxRecDepth 100000 in
theorem d_l_draw_picture (c_l_take : Cl P w K mg base "_law_take" (2) ["pen", "amount"] (spQ K 2 f_l_take)) (c_l_one_of : Cl P w K mg base "_law_one_of" (3) ["pen", "some"] (spQ K 2 f_l_one_of)) (z_list : mg "list" = none) (z_range : mg "range" = none) (z_tuple : mg "tuple" = none)  : SsX (Fm.ofDef P w K mg base n_l_draw_picture (defScope s_l_draw_picture) (3) sc_l_draw_picture.nd) 1 (defBody s_l_draw_picture) m_l_draw_picture :=
  (sx_cons (sx_parT [5, 6] (.cons rfl (loc_of rfl) (lcl_of rfl) (.cons rfl (loc_of rfl) (lcl_of rfl) .nil (fun _ => rfl)) (fun _ => rfl)) rfl (by decide) (by decide) (acx_cons (p := false) (ex_callQ 0 ⟨c_l_one_of.ex⟩ (lvl_of rfl) rfl rfl (vis_of rfl) (axn_cons (ex_lst (ax_cons ex_int (ax_cons ex_int (ax_cons ex_int ax_nil (fun _ => rfl)) (fun _ => rfl)) (fun _ => rfl))) axn_nil)) (acx_cons (p := false) (ex_lstO ax_nil) acx_nil)) (by rfl))
    (sx_cons (sx_for (p := false) (vs := [4]) (by decide) (ix_rg1 (ax_cons (ex_var 1 rfl (vis_of rfl) (by decide) (by decide)) ax_nil (fun _ => rfl)) rfl z_range (fun _ => rfl)) (gx_name 4 rfl (loc_of rfl) (lcl_of rfl) (by decide)) (sx_cons (sx_lc (p := false) 7 rfl rfl rfl (by rfl) (by rfl) (by decide) (own := [("j", 8)]) (ix_rg1 (ax_cons (ex_var 2 rfl (vis_of rfl) (by decide) (by decide)) ax_nil (fun _ => rfl)) rfl z_range (fun _ => rfl)) (by rfl) (gx_name 8 rfl (loc_of rfl) (lcl_of rfl) (by decide)) tsx_nil (ex_if (tx_cmp (fun _ h => op_eqD h) (ex_callQ 0 ⟨c_l_take.ex⟩ (lvl_of rfl) rfl rfl (vis_of rfl) (axn_cons (ex_var 5 rfl (vis_of rfl) (by decide) (by decide)) axn_nil)) ex_int (by rfl)) ex_str (ex_callQ 0 ⟨c_l_one_of.ex⟩ (lvl_of rfl) rfl rfl (vis_of rfl) (axn_cons (ex_callTy (fun X hX => call_listD3 (calmOf hX)) rfl z_list (by decide +kernel) (ax_cons (ex_var 3 rfl (vis_of rfl) (by decide) (by decide)) ax_nil (fun _ => rfl)) (by decide) (by decide) (fun _ => rfl) (fun _ => rfl)) axn_nil))) (fun _ _ => rfl))
    (sx_one (sx_append (p := false) 6 rfl (vis_of rfl) (ex_join ex_str (ax_cons (ex_var 7 rfl (vis_of rfl) (by decide) (by decide)) ax_nil (fun _ => rfl)))))))
    (sx_cons (sx_if (p := false) (tx_vol (tx_cmp (fun _ h => op_eqD h) (ex_strip (ex_join ex_str (ax_cons (ex_var 6 rfl (vis_of rfl) (by decide) (by decide)) ax_nil (fun _ => rfl))) (ax_cons ex_str ax_nil (fun _ => rfl))) ex_str (by rfl))) (sx_one (sx_store (p := false) 6 rfl (vis_of rfl) ex_int (ex_vol (ex_op (fun _ => op_addD) (ex_ix (ex_var 3 rfl (vis_of rfl) (by decide) (by decide)) ex_int (fun _ _ => rfl)) (ex_sl (ex_ix (ex_var 6 rfl (vis_of rfl) (by decide) (by decide)) ex_int (fun _ _ => rfl)) (ox_some ex_int) ox_none))))) sx_nil)
    (sx_one (sx_ret (p := false) (ex_callTy (fun _ _ => call_tupleD) rfl z_tuple (by decide +kernel) (ax_cons (ex_frzV 6 rfl (vis_of rfl)) ax_nil (fun _ => rfl)) (by decide) (by decide) (fun _ => rfl) (fun _ => rfl)))))))
set_option maxRecDepth 100000 in
theorem d_l_draw_pile (c_l_take : Cl P w K mg base "_law_take" (2) ["pen", "amount"] (spQ K 2 f_l_take)) (c_l_alphabet : Cl P w K mg base "_law_alphabet" (4) ["pen"] (spQ K 1 f_l_alphabet)) (c_l_draw_picture : Cl P w K mg base "_law_draw_picture" (4) ["pen", "rows", "columns", "letters"] (spQ K 4 f_l_draw_picture)) (z_range : mg "range" = none) (z_tuple : mg "tuple" = none)  : SsX (Fm.ofDef P w K mg base n_l_draw_pile (defScope s_l_draw_pile) (4) sc_l_draw_pile.nd) 1 (defBody s_l_draw_pile) m_l_draw_pile :=
  (sx_cons (sx_par2 4 5 rfl rfl (by decide) rfl rfl (by decide) (acx_cons (p := false) (ex_op (fun _ => op_addD) ex_int (ex_callQ 0 ⟨c_l_take.ex⟩ (lvl_of rfl) rfl rfl (vis_of rfl) (axn_cons (ex_var 2 rfl (vis_of rfl) (by decide) (by decide)) axn_nil))) (acx_cons (p := false) (ex_op (fun _ => op_addD) ex_int (ex_callQ 0 ⟨c_l_take.ex⟩ (lvl_of rfl) rfl rfl (vis_of rfl) (axn_cons (ex_var 2 rfl (vis_of rfl) (by decide) (by decide)) axn_nil))) acx_nil)) (by rfl))
    (sx_cons (sx_par2 6 7 rfl rfl (by decide) rfl rfl (by decide) (acx_cons (p := false) (ex_callQ 0 ⟨c_l_alphabet.ex⟩ (lvl_of rfl) rfl rfl (vis_of rfl) axn_nil) (acx_cons (p := false) (ex_lstO ax_nil) acx_nil)) (by rfl))
    (sx_cons (sx_for (p := false) (vs := [3]) (by decide) (ix_rg1 (ax_cons (ex_op (fun _ => op_addD) ex_int (ex_callQ 0 ⟨c_l_take.ex⟩ (lvl_of rfl) rfl rfl (vis_of rfl) (axn_cons (ex_var 1 rfl (vis_of rfl) (by decide) (by decide)) axn_nil))) ax_nil (fun _ => rfl)) rfl z_range (fun _ => rfl)) (gx_name 3 rfl (loc_of rfl) (lcl_of rfl) (by decide)) (sx_cons (sx_par2 9 10 rfl rfl (by decide) rfl rfl (by decide) (acx_cons (p := false) (ex_op (fun _ => op_addD) ex_int (ex_callQ 0 ⟨c_l_take.ex⟩ (lvl_of rfl) rfl rfl (vis_of rfl) (axn_cons (ex_var 4 rfl (vis_of rfl) (by decide) (by decide)) axn_nil))) (acx_cons (p := false) (ex_op (fun _ => op_addD) ex_int (ex_callQ 0 ⟨c_l_take.ex⟩ (lvl_of rfl) rfl rfl (vis_of rfl) (axn_cons (ex_var 5 rfl (vis_of rfl) (by decide) (by decide)) axn_nil))) acx_nil)) (by rfl))
    (sx_cons (sx_set (p := false) 8 rfl (loc_of rfl) (lcl_of rfl) (by decide) (ex_callQ 0 ⟨c_l_draw_picture.ex⟩ (lvl_of rfl) rfl rfl (vis_of rfl) (axn_cons (ex_var 9 rfl (vis_of rfl) (by decide) (by decide)) (axn_cons (ex_var 10 rfl (vis_of rfl) (by decide) (by decide)) (axn_cons (ex_var 6 rfl (vis_of rfl) (by decide) (by decide)) axn_nil)))))
    (sx_one (sx_append (p := false) 7 rfl (vis_of rfl) (ex_tup (ax_cons (ex_callQ 0 ⟨c_l_take.ex⟩ (lvl_of rfl) rfl rfl (vis_of rfl) (axn_cons (ex_op (fun _ => op_addD) (ex_op (fun _ => op_subD) (ex_var 4 rfl (vis_of rfl) (by decide) (by decide)) (ex_var 9 rfl (vis_of rfl) (by decide) (by decide))) ex_int) axn_nil)) (ax_cons (ex_callQ 0 ⟨c_l_take.ex⟩ (lvl_of rfl) rfl rfl (vis_of rfl) (axn_cons (ex_op (fun _ => op_addD) (ex_op (fun _ => op_subD) (ex_var 5 rfl (vis_of rfl) (by decide) (by decide)) (ex_var 10 rfl (vis_of rfl) (by decide) (by decide))) ex_int) axn_nil)) (ax_cons (ex_var 8 rfl (vis_of rfl) (by decide) (by decide)) ax_nil (fun _ => rfl)) (fun _ => rfl)) (fun _ => rfl))))))))
    (sx_one (sx_ret (p := false) (ex_tup (ax_cons (ex_var 4 rfl (vis_of rfl) (by decide) (by decide)) (ax_cons (ex_var 5 rfl (vis_of rfl) (by decide) (by decide)) (ax_cons (ex_callTy (fun _ _ => call_tupleD) rfl z_tuple (by decide +kernel) (ax_cons (ex_frzV 7 rfl (vis_of rfl)) ax_nil (fun _ => rfl)) (by decide) (by decide) (fun _ => rfl) (fun _ => rfl)) ax_nil (fun _ => rfl)) (fun _ => rfl)) (fun _ => rfl))))))))
set_option maxRecDepth 100000 in
theorem d_l_covered  (z_enumerate : mg "enumerate" = none)  : SsX (Fm.ofDef P w K mg base n_l_covered (defScope s_l_covered) (0) sc_l_covered.nd) 0 (defBody s_l_covered) m_l_covered :=
  (sx_cons (sx_set (p := false) 1 rfl (loc_of rfl) (lcl_of rfl) (by decide) (ex_dt .fz))
    (sx_cons (sx_for (p := false) (vs := [2, 3]) (by decide) (ix_en (ax_cons (ex_ix (ex_var 0 rfl (vis_of rfl) (by decide) (by decide)) ex_int (fun _ _ => rfl)) ax_nil (fun _ => rfl)) rfl z_enumerate (fun _ => rfl)) (gx_tup (gsx_cons (gx_name 2 rfl (loc_of rfl) (lcl_of rfl) (by decide)) (gsx_cons (gx_name 3 rfl (loc_of rfl) (lcl_of rfl) (by decide)) gsx_nil (fun _ => rfl)) (fun _ => rfl)) (fun _ => rfl) (fun _ => rfl)) (sx_one (sx_for (p := false) (vs := [4, 5]) (by decide) (ix_en (ax_cons (ex_ix (ex_var 3 rfl (vis_of rfl) (by decide) (by decide)) ex_int (fun _ _ => rfl)) ax_nil (fun _ => rfl)) rfl z_enumerate (fun _ => rfl)) (gx_tup (gsx_cons (gx_name 4 rfl (loc_of rfl) (lcl_of rfl) (by decide)) (gsx_cons (gx_name 5 rfl (loc_of rfl) (lcl_of rfl) (by decide)) gsx_nil (fun _ => rfl)) (fun _ => rfl)) (fun _ => rfl) (fun _ => rfl)) (sx_one (sx_for (p := false) (vs := [6, 7]) (by decide) (ix_en (ax_cons (ex_var 5 rfl (vis_of rfl) (by decide) (by decide)) ax_nil (fun _ => rfl)) rfl z_enumerate (fun _ => rfl)) (gx_tup (gsx_cons (gx_name 6 rfl (loc_of rfl) (lcl_of rfl) (by decide)) (gsx_cons (gx_name 7 rfl (loc_of rfl) (lcl_of rfl) (by decide)) gsx_nil (fun _ => rfl)) (fun _ => rfl)) (fun _ => rfl) (fun _ => rfl)) (sx_one (sx_if (p := false) (tx_cmp (fun _ h => op_neD h) (ex_var 7 rfl (vis_of rfl) (by decide) (by decide)) ex_str (by rfl)) (sx_cons (sx_set (p := false) 8 rfl (loc_of rfl) (lcl_of rfl) (by decide) (ex_tup (ax_cons (ex_op (fun _ => op_addD) (ex_ix (ex_var 3 rfl (vis_of rfl) (by decide) (by decide)) ex_int (fun _ _ => rfl)) (ex_var 4 rfl (vis_of rfl) (by decide) (by decide))) (ax_cons (ex_op (fun _ => op_addD) (ex_ix (ex_var 3 rfl (vis_of rfl) (by decide) (by decide)) ex_int (fun _ _ => rfl)) (ex_var 6 rfl (vis_of rfl) (by decide) (by decide))) ax_nil (fun _ => rfl)) (fun _ => rfl))))
    (sx_one (sx_store (p := false) 1 rfl (vis_of rfl) (ex_var 8 rfl (vis_of rfl) (by decide) (by decide)) (ex_op (fun _ => op_addD) (ex_getO 1 rfl (vis_of rfl) (ex_var 8 rfl (vis_of rfl) (by decide) (by decide)) (ex_lst ax_nil)) (ex_lst (ax_cons (ex_tup (ax_cons (ex_var 2 rfl (vis_of rfl) (by decide) (by decide)) (ax_cons (ex_var 7 rfl (vis_of rfl) (by decide) (by decide)) ax_nil (fun _ => rfl)) (fun _ => rfl))) ax_nil (fun _ => rfl))))))) sx_nil)))))))
    (sx_one (sx_ret (p := false) (ex_move 1 rfl (vis_of rfl) (by decide) (by decide))))))
set_option maxRecDepth 100000 in
theorem d_p_letters_of  (z_enumerate : mg "enumerate" = none) {u_HOLE : Tok} (h_HOLE : mg "HOLE" = some (.str (Str.ofString ".") u_HOLE)) : SsX (Fm.ofDef P w K mg base n_p_letters_of (defScope s_p_letters_of) (0) sc_p_letters_of.nd) 0 (defBody s_p_letters_of) m_p_letters_of :=
  (sx_cons (sx_asg (p := false) (vs := [2, 3, 4]) (by decide) (gx_tup (gsx_cons (gx_name 2 rfl (loc_of rfl) (lcl_of rfl) (by decide)) (gsx_cons (gx_name 3 rfl (loc_of rfl) (lcl_of rfl) (by decide)) (gsx_cons (gx_name 4 rfl (loc_of rfl) (lcl_of rfl) (by decide)) gsx_nil (fun _ => rfl)) (fun _ => rfl)) (fun _ => rfl)) (fun _ => rfl) (fun _ => rfl)) (ex_var 0 rfl (vis_of rfl) (by decide) (by decide)))
    (sx_cons (sx_set (p := false) 1 rfl (loc_of rfl) (lcl_of rfl) (by decide) (ex_dt .fz))
    (sx_cons (sx_for (p := false) (vs := [5, 6]) (by decide) (ix_en (ax_cons (ex_var 4 rfl (vis_of rfl) (by decide) (by decide)) ax_nil (fun _ => rfl)) rfl z_enumerate (fun _ => rfl)) (gx_tup (gsx_cons (gx_name 5 rfl (loc_of rfl) (lcl_of rfl) (by decide)) (gsx_cons (gx_name 6 rfl (loc_of rfl) (lcl_of rfl) (by decide)) gsx_nil (fun _ => rfl)) (fun _ => rfl)) (fun _ => rfl) (fun _ => rfl)) (sx_one (sx_for (p := false) (vs := [7, 8]) (by decide) (ix_en (ax_cons (ex_var 6 rfl (vis_of rfl) (by decide) (by decide)) ax_nil (fun _ => rfl)) rfl z_enumerate (fun _ => rfl)) (gx_tup (gsx_cons (gx_name 7 rfl (loc_of rfl) (lcl_of rfl) (by decide)) (gsx_cons (gx_name 8 rfl (loc_of rfl) (lcl_of rfl) (by decide)) gsx_nil (fun _ => rfl)) (fun _ => rfl)) (fun _ => rfl) (fun _ => rfl)) (sx_one (sx_if (p := false) (tx_cmp (fun _ h => op_neD h) (ex_var 8 rfl (vis_of rfl) (by decide) (by decide)) (ex_glob rfl h_HOLE (v := .str (Str.ofString ".")) ⟨_, rfl⟩ fun _ => .str _) (by rfl)) (sx_one (sx_store (p := false) 1 rfl (vis_of rfl) (ex_tup (ax_cons (ex_op (fun _ => op_addD) (ex_var 2 rfl (vis_of rfl) (by decide) (by decide)) (ex_var 5 rfl (vis_of rfl) (by decide) (by decide))) (ax_cons (ex_op (fun _ => op_addD) (ex_var 3 rfl (vis_of rfl) (by decide) (by decide)) (ex_var 7 rfl (vis_of rfl) (by decide) (by decide))) ax_nil (fun _ => rfl)) (fun _ => rfl))) (ex_var 8 rfl (vis_of rfl) (by decide) (by decide)))) sx_nil)))))
    (sx_one (sx_ret (p := false) (ex_move 1 rfl (vis_of rfl) (by decide) (by decide)))))))
set_option maxRecDepth 100000 in
theorem d_p_covered (c_p_letters_of : Cl P w K mg base "letters_of" (1) ["sheet"] (spP K 1 f_p_letters_of)) (z_enumerate : mg "enumerate" = none)  : SsX (Fm.ofDef P w K mg base n_p_covered (defScope s_p_covered) (1) sc_p_covered.nd) 0 (defBody s_p_covered) m_p_covered :=
  (sx_cons (sx_set (p := false) 1 rfl (loc_of rfl) (lcl_of rfl) (by decide) (ex_dt (.l .fz)))
    (sx_cons (sx_for (p := false) (vs := [2, 3]) (by decide) (ix_en (ax_cons (ex_ix (ex_var 0 rfl (vis_of rfl) (by decide) (by decide)) ex_int (fun _ _ => rfl)) ax_nil (fun _ => rfl)) rfl z_enumerate (fun _ => rfl)) (gx_tup (gsx_cons (gx_name 2 rfl (loc_of rfl) (lcl_of rfl) (by decide)) (gsx_cons (gx_name 3 rfl (loc_of rfl) (lcl_of rfl) (by decide)) gsx_nil (fun _ => rfl)) (fun _ => rfl)) (fun _ => rfl) (fun _ => rfl)) (sx_one (sx_forD (p := false) (vs := [4, 5]) (by decide) (ilx_items (ex_callP ⟨c_p_letters_of.ex⟩ (lvl_of rfl) rfl (axn_cons (ex_var 3 rfl (vis_of rfl) (by decide) (by decide)) axn_nil))) (gx_tup (gsx_cons (gx_name 4 rfl (loc_of rfl) (lcl_of rfl) (by decide)) (gsx_cons (gx_name 5 rfl (loc_of rfl) (lcl_of rfl) (by decide)) gsx_nil (fun _ => rfl)) (fun _ => rfl)) (fun _ => rfl) (fun _ => rfl)) (sx_one (sx_sdApp (p := false) 1 rfl (vis_of rfl) (ex_var 4 rfl (vis_of rfl) (by decide) (by decide)) (ex_tup (ax_cons (ex_var 2 rfl (vis_of rfl) (by decide) (by decide)) (ax_cons (ex_var 5 rfl (vis_of rfl) (by decide) (by decide)) ax_nil (fun _ => rfl)) (fun _ => rfl))))))))
    (sx_one (sx_ret (p := false) (ex_move 1 rfl (vis_of rfl) (by decide) (by decide))))))
set_option maxRecDepth 100000 in
theorem d_l_same (n : Nat) (c_l_same : Cl P w K mg base "_law_same" (n + 1) ["found", "due"] (spP K 2 (f_l_same n))) (z_bool : mg "bool" = none) (z_int : mg "int" = none) (z_isinstance : mg "isinstance" = none) (z_len : mg "len" = none) (z_list : mg "list" = none) (z_str : mg "str" = none) (z_tuple : mg "tuple" = none) (z_zip : mg "zip" = none)  : SsX (Fm.ofDef P w K mg base n_l_same (defScope s_l_same) (n + 1) sc_l_same.nd) 0 (defBody s_l_same) (m_l_same (f_l_same n)) :=
  (sx_cons (sx_if (p := false) (WX.tx (wx_or (tx_cmp (fun _ _ => op_isD) (ex_var 1 rfl (vis_of rfl) (by decide) (by decide)) ex_non (by rfl)) (wx_or1 (tx_cmp (fun _ _ => op_isD) (ex_var 0 rfl (vis_of rfl) (by decide) (by decide)) ex_non (by rfl))))) (sx_one (sx_ret (p := false) (ex_and (ex_cmp (fun _ _ => op_isD) (ex_var 1 rfl (vis_of rfl) (by decide) (by decide)) ex_non (by rfl)) (ex_one (ex_cmp (fun _ _ => op_isD) (ex_var 0 rfl (vis_of rfl) (by decide) (by decide)) ex_non (by rfl)))))) sx_nil)
    (sx_cons (sx_if (p := false) (WX.tx (wx_or (tx_val (ex_is1 (ex_var 1 rfl (vis_of rfl) (by decide) (by decide)) rfl z_isinstance rfl z_bool (by decide +kernel) (by decide)) (fun _ _ => rfl)) (wx_or1 (tx_val (ex_is1 (ex_var 0 rfl (vis_of rfl) (by decide) (by decide)) rfl z_isinstance rfl z_bool (by decide +kernel) (by decide)) (fun _ _ => rfl))))) (sx_one (sx_ret (p := false) (ex_and (ex_is1 (ex_var 1 rfl (vis_of rfl) (by decide) (by decide)) rfl z_isinstance rfl z_bool (by decide +kernel) (by decide)) (ex_and (ex_is1 (ex_var 0 rfl (vis_of rfl) (by decide) (by decide)) rfl z_isinstance rfl z_bool (by decide +kernel) (by decide)) (ex_one (ex_cmp (fun _ h => op_eqD h) (ex_var 0 rfl (vis_of rfl) (by decide) (by decide)) (ex_var 1 rfl (vis_of rfl) (by decide) (by decide)) (by rfl))))))) sx_nil)
    (sx_cons (sx_if (p := false) (tx_val (ex_isN (ex_var 1 rfl (vis_of rfl) (by decide) (by decide)) rfl z_isinstance (.cons rfl z_int (by decide +kernel) (by decide) (by decide) (fun _ => rfl) (.cons rfl z_str (by decide +kernel) (by decide) (by decide) (fun _ => rfl) .nil)) (by decide) (by decide)) (fun _ _ => rfl)) (sx_cons (sx_if (p := false) (tx_cmp (fun _ h => op_neD h) (ex_is1 (ex_var 0 rfl (vis_of rfl) (by decide) (by decide)) rfl z_isinstance rfl z_int (by decide +kernel) (by decide)) (ex_is1 (ex_var 1 rfl (vis_of rfl) (by decide) (by decide)) rfl z_isinstance rfl z_int (by decide +kernel) (by decide)) (by rfl)) (sx_one (sx_ret (p := false) ex_bl)) sx_nil)
    (sx_one (sx_ret (p := false) (ex_and (ex_isN (ex_var 0 rfl (vis_of rfl) (by decide) (by decide)) rfl z_isinstance (.cons rfl z_int (by decide +kernel) (by decide) (by decide) (fun _ => rfl) (.cons rfl z_str (by decide +kernel) (by decide) (by decide) (fun _ => rfl) .nil)) (by decide) (by decide)) (ex_one (ex_cmp (fun _ h => op_eqD h) (ex_var 0 rfl (vis_of rfl) (by decide) (by decide)) (ex_var 1 rfl (vis_of rfl) (by decide) (by decide)) (by rfl))))))) sx_nil)
    (sx_cons (sx_if (p := false) (WX.tx (wx_or (tx_cmp (fun _ h => op_neD h) (ex_is1 (ex_var 1 rfl (vis_of rfl) (by decide) (by decide)) rfl z_isinstance rfl z_tuple (by decide +kernel) (by decide)) (ex_is1 (ex_var 0 rfl (vis_of rfl) (by decide) (by decide)) rfl z_isinstance rfl z_tuple (by decide +kernel) (by decide)) (by rfl)) (wx_or1 (tx_cmp (fun _ h => op_neD h) (ex_is1 (ex_var 1 rfl (vis_of rfl) (by decide) (by decide)) rfl z_isinstance rfl z_list (by decide +kernel) (by decide)) (ex_is1 (ex_var 0 rfl (vis_of rfl) (by decide) (by decide)) rfl z_isinstance rfl z_list (by decide +kernel) (by decide)) (by rfl))))) (sx_one (sx_ret (p := false) ex_bl)) sx_nil)
    (sx_cons (sx_if (p := false) (tx_cmp (fun _ h => op_neD h) (ex_callB (fun _ _ => call_lenD) rfl z_len (by decide +kernel) (ax_cons (ex_var 0 rfl (vis_of rfl) (by decide) (by decide)) ax_nil (fun _ => rfl)) (by decide) (by decide) (fun _ => rfl) (fun _ => rfl)) (ex_callB (fun _ _ => call_lenD) rfl z_len (by decide +kernel) (ax_cons (ex_var 1 rfl (vis_of rfl) (by decide) (by decide)) ax_nil (fun _ => rfl)) (by decide) (by decide) (fun _ => rfl) (fun _ => rfl)) (by rfl)) (sx_one (sx_ret (p := false) ex_bl)) sx_nil)
    (sx_one (sx_ret (p := false) (ex_cmp (fun _ h => op_ninD h) ex_bl (ex_lc (own := [("one", 2), ("other", 3)]) (ix_zp (ax_cons (ex_var 0 rfl (vis_of rfl) (by decide) (by decide)) (ax_cons (ex_var 1 rfl (vis_of rfl) (by decide) (by decide)) ax_nil (fun _ => rfl)) (fun _ => rfl)) rfl z_zip (fun _ => rfl) (fun _ => rfl)) (by rfl) (gx_tup (gsx_cons (gx_name 2 rfl (loc_of rfl) (lcl_of rfl) (by decide)) (gsx_cons (gx_name 3 rfl (loc_of rfl) (lcl_of rfl) (by decide)) gsx_nil (fun _ => rfl)) (fun _ => rfl)) (fun _ => rfl) (fun _ => rfl)) tsx_nil (ex_callP ⟨c_l_same.ex⟩ (Nat.le_refl _) rfl (axn_cons (ex_var 2 rfl (vis_of rfl) (by decide) (by decide)) (axn_cons (ex_var 3 rfl (vis_of rfl) (by decide) (by decide)) axn_nil))) (fun _ _ => rfl)) (by rfl)))))))))
end
def m_og : MG := (mgTup 2 (mgCons (mgName 2) (mgCons (mgName 3) mgNil)))
def m_ob : MB := (mStore 1 (mOp modD (mCall intD (mCons (mVar 2) mNil)) (mC (.int 12))) (mVol (mOp addD (mOp ixD (mVar 1) (mOp modD (mCall intD (mCons (mVar 2) mNil)) (mC (.int 12)))) (mVar 3))))
def m_or : M := (mPenL 1 (mCons (mC (.int 0)) (mCons (mC (.int 0)) mNil)))
def op : List Int → Option Cell := opGo m_og m_ob m_or
section
variable {P : Program} {w : World} {K : PySem.W.Frag} {mg : Str → Option Value} {base : Heap}
abbrev st_of : Stmt := nthS (defBody s_l_open) 1
abbrev st_or : Stmt := nthS (defBody s_l_open) 2
theorem d_og : GX (Fm.ofDef P w K mg base n_l_open (defScope s_l_open) 0 sc_l_open.nd) [2, 3] (forTg st_of) m_og := (gx_tup (gsx_cons (gx_name 2 rfl (loc_of rfl) (lcl_of rfl) (by decide)) (gsx_cons (gx_name 3 rfl (loc_of rfl) (lcl_of rfl) (by decide)) gsx_nil (fun _ => rfl)) (fun _ => rfl)) (fun _ => rfl) (fun _ => rfl))
theorem d_ob (z_int : mg "int" = none) : SsX (Fm.ofDef P w K mg base n_l_open (defScope s_l_open) 0 sc_l_open.nd) 0 (forBody st_of) m_ob := (sx_one (sx_store (p := false) 1 rfl (vis_of rfl) (ex_op (fun _ => op_modD) (ex_callTy (fun _ _ => call_intD) rfl z_int (by decide +kernel) (ax_cons (ex_var 2 rfl (vis_of rfl) (by decide) (by decide)) ax_nil (fun _ => rfl)) (by decide) (by decide) (fun _ => rfl) (fun _ => rfl)) ex_int) (ex_vol (ex_op (fun _ => op_addD) (ex_ix (ex_var 1 rfl (vis_of rfl) (by decide) (by decide)) (ex_op (fun _ => op_modD) (ex_callTy (fun _ _ => call_intD) rfl z_int (by decide +kernel) (ax_cons (ex_var 2 rfl (vis_of rfl) (by decide) (by decide)) ax_nil (fun _ => rfl)) (by decide) (by decide) (fun _ => rfl) (fun _ => rfl)) ex_int) (fun _ _ => rfl)) (ex_var 3 rfl (vis_of rfl) (by decide) (by decide))))))
theorem d_or : EX (Fm.ofDef P w K mg base n_l_open (defScope s_l_open) 0 sc_l_open.nd) false (retVal st_or) m_or := (ex_penL 1 rfl (vis_of rfl) (ax_cons ex_int (ax_cons ex_int ax_nil (fun _ => rfl)) (fun _ => rfl)))
theorem ok_open {f : Addr} {fd : FuncData} (Df : Fun K "_law_open" "_law_open" s_l_open f fd) (z_list : mg "list" = none) (z_enumerate : mg "enumerate" = none) (z_int : mg "int" = none) : Pr P w K mg base 1 f fd ["script"] (spOpen K op) := by
  obtain ⟨g, g1, g2⟩ := d_og (P := P) (w := w) (K := K) (mg := mg) (base := base)
  obtain ⟨tb, b1, b2⟩ := d_ob (P := P) (w := w) (K := K) (mg := mg) (base := base) z_int
  obtain ⟨tr, r1, r2⟩ := d_or (P := P) (w := w) (K := K) (mg := mg) (base := base)
  exact pr_open Df sc_l_open rfl g2 b2 r2 fun X hX => pss_cons (ps_opA (F := (Fm.ofDef P w K mg base n_l_open (defScope s_l_open) 0 sc_l_open.nd)) rfl z_list rfl rfl (vis_of rfl) (loc_of rfl) (lcl_of rfl) X hX)
    (pss_cons (ps_for (by rw [Fm.xe _ X hX]; exact PassesOwn.never) (Fm.calm _ X hX) (pi_opB (F := (Fm.ofDef P w K mg base n_l_open (defScope s_l_open) 0 sc_l_open.nd)) rfl z_enumerate rfl (vis_of rfl) X hX) (g1 X hX) (b1 X hX) (fun _ => rfl)) (pss_one (ps_ret (r1 X hX))))
theorem d_law (c_l_one_of : Cl P w K mg base "_law_one_of" (3) ["pen", "some"] (spQ K 2 f_l_one_of)) (c_l_draw_pile : Cl P w K mg base "_law_draw_pile" (5) ["pen", "many", "lines"] (spQ K 3 f_l_draw_pile)) (c_l_covered : Cl P w K mg base "_law_covered" (1) ["pile"] (spP K 1 f_l_covered)) (c_p_covered : Cl P w K mg base "covered" (2) ["pile"] (spP K 1 f_p_covered)) (c_l_same : Cl P w K mg base "_law_same" (9) ["found", "due"] (spP K 2 (f_l_same 8))) (z_dict : mg "dict" = none) (z_isinstance : mg "isinstance" = none) (z_range : mg "range" = none) (z_repr : mg "repr" = none) (z_sorted : mg "sorted" = none) : SsX (Fm.ofDef P w K mg base n_law (defScope s_law) (9) sc_law.nd) 0 (defBody s_law).tail m_law :=
  (sx_cons (sx_for (p := false) (vs := [2]) (by decide) (ix_rg1 (ax_cons ex_int ax_nil (fun _ => rfl)) rfl z_range (fun _ => rfl)) (gx_name 2 rfl (loc_of rfl) (lcl_of rfl) (by decide)) (sx_cons (sx_set (p := false) 3 rfl (loc_of rfl) (lcl_of rfl) (by decide) (ex_callQ 1 ⟨c_l_draw_pile.ex⟩ (lvl_of rfl) rfl rfl (vis_of rfl) (axn_cons ex_int (axn_cons (ex_callQ 1 ⟨c_l_one_of.ex⟩ (lvl_of rfl) rfl rfl (vis_of rfl) (axn_cons (ex_lst (ax_cons ex_int (ax_cons ex_int (ax_cons ex_int ax_nil (fun _ => rfl)) (fun _ => rfl)) (fun _ => rfl))) axn_nil)) axn_nil))))
    (sx_cons (sx_parT [5, 6] (.cons rfl (loc_of rfl) (lcl_of rfl) (.cons rfl (loc_of rfl) (lcl_of rfl) .nil (fun _ => rfl)) (fun _ => rfl)) rfl (by decide) (by decide) (acx_cons (p := false) (ex_callP ⟨c_l_covered.ex⟩ (lvl_of rfl) rfl (axn_cons (ex_var 3 rfl (vis_of rfl) (by decide) (by decide)) axn_nil)) (acx_cons (p := false) (ex_callB (fun X hX => call_reprD (gdOf hX) (roomOf hX)) rfl z_repr (by decide +kernel) (ax_cons (ex_var 3 rfl (vis_of rfl) (by decide) (by decide)) ax_nil (fun _ => rfl)) (by decide) (by decide) (fun _ => rfl) (fun _ => rfl)) acx_nil)) (by rfl))
    (sx_one (sx_for (p := false) (vs := [4]) (by decide) (ix_rg1 (ax_cons ex_int ax_nil (fun _ => rfl)) rfl z_range (fun _ => rfl)) (gx_name 4 rfl (loc_of rfl) (lcl_of rfl) (by decide)) (sx_cons (sx_set (p := false) 7 rfl (loc_of rfl) (lcl_of rfl) (by decide) (ex_callPO ⟨c_p_covered.ex⟩ (lvl_of rfl) rfl (axn_cons (ex_var 3 rfl (vis_of rfl) (by decide) (by decide)) axn_nil)))
    (sx_cons (sx_if (p := false) (tx_vol (WX.tx (wx_or (tx_not (tx_val (ex_is1 (ex_var 7 rfl (vis_of rfl) (by decide) (by decide)) rfl z_isinstance rfl z_dict (by decide +kernel) (by decide)) (fun _ _ => rfl))) (wx_or (tx_cmp (fun _ h => op_neD h) (ex_callB (fun X hX => call_sortedD2 (roomOf hX)) rfl z_sorted (by decide +kernel) (ax_cons (ex_var 7 rfl (vis_of rfl) (by decide) (by decide)) ax_nil (fun _ => rfl)) (by decide) (by decide) (fun _ => rfl) (fun _ => rfl)) (ex_callB (fun X hX => call_sortedD2 (roomOf hX)) rfl z_sorted (by decide +kernel) (ax_cons (ex_var 5 rfl (vis_of rfl) (by decide) (by decide)) ax_nil (fun _ => rfl)) (by decide) (by decide) (fun _ => rfl) (fun _ => rfl)) (by rfl)) (wx_or1 (tx_cmp (fun _ h => op_neD h) (ex_callB (fun X hX => call_reprD (gdOf hX) (roomOf hX)) rfl z_repr (by decide +kernel) (ax_cons (ex_var 3 rfl (vis_of rfl) (by decide) (by decide)) ax_nil (fun _ => rfl)) (by decide) (by decide) (fun _ => rfl) (fun _ => rfl)) (ex_var 6 rfl (vis_of rfl) (by decide) (by decide)) (by rfl))))))) (sx_one (sx_ret (p := false) ex_bl)) sx_nil)
    (sx_cons (sx_if (p := false) (tx_vol (tx_not (tx_val (ex_callP ⟨c_l_same.ex⟩ (lvl_of rfl) rfl (axn_cons (ex_lc (own := [("cell", 8)]) (ix_seq (ex_callB (fun X hX => call_sortedD2 (roomOf hX)) rfl z_sorted (by decide +kernel) (ax_cons (ex_var 7 rfl (vis_of rfl) (by decide) (by decide)) ax_nil (fun _ => rfl)) (by decide) (by decide) (fun _ => rfl) (fun _ => rfl))) (by rfl) (gx_name 8 rfl (loc_of rfl) (lcl_of rfl) (by decide)) tsx_nil (ex_ix (ex_var 7 rfl (vis_of rfl) (by decide) (by decide)) (ex_var 8 rfl (vis_of rfl) (by decide) (by decide)) (fun _ _ => rfl)) (fun _ _ => rfl)) (axn_cons (ex_lc (own := [("cell", 8)]) (ix_seq (ex_callB (fun X hX => call_sortedD2 (roomOf hX)) rfl z_sorted (by decide +kernel) (ax_cons (ex_var 5 rfl (vis_of rfl) (by decide) (by decide)) ax_nil (fun _ => rfl)) (by decide) (by decide) (fun _ => rfl) (fun _ => rfl))) (by rfl) (gx_name 8 rfl (loc_of rfl) (lcl_of rfl) (by decide)) tsx_nil (ex_ix (ex_var 5 rfl (vis_of rfl) (by decide) (by decide)) (ex_var 8 rfl (vis_of rfl) (by decide) (by decide)) (fun _ _ => rfl)) (fun _ _ => rfl)) axn_nil))) (fun _ _ => rfl)))) (sx_one (sx_ret (p := false) ex_bl)) sx_nil)
    (sx_cons (sx_appAll 7 8 rfl rfl (vis_of rfl) (loc_of rfl) (lcl_of rfl) (by decide))
    (sx_cons (sx_if (p := false) (tx_vol (tx_cmp (fun _ h => op_neD h) (ex_lcD (own := [("cell", 8)]) (ilx_keys (ex_var 7 rfl (vis_of rfl) (by decide) (by decide))) (by rfl) (gx_name 8 rfl (loc_of rfl) (lcl_of rfl) (by decide)) (tsx_one (tx_cmp (fun _ h => op_neD h) (ex_count (ex_ix (ex_var 7 rfl (vis_of rfl) (by decide) (by decide)) (ex_var 8 rfl (vis_of rfl) (by decide) (by decide)) (fun _ _ => rfl)) (ax_cons ex_non ax_nil (fun _ => rfl))) ex_int (by rfl))) (ex_var 8 rfl (vis_of rfl) (by decide) (by decide))) (ex_lst ax_nil) (by rfl))) (sx_one (sx_ret (p := false) ex_bl)) sx_nil)
    (sx_one (sx_putNone 7 rfl (vis_of rfl)))))))))))))
    (sx_one (sx_ret (p := false) ex_bl)))
theorem ok_law {f : Addr} {fd : FuncData} (Df : Fun K "law" "law" s_law f fd) (c_l_open : Cl P w K mg base "_law_open" 1 ["script"] (spOpen K op)) (c_l_one_of : Cl P w K mg base "_law_one_of" (3) ["pen", "some"] (spQ K 2 f_l_one_of)) (c_l_draw_pile : Cl P w K mg base "_law_draw_pile" (5) ["pen", "many", "lines"] (spQ K 3 f_l_draw_pile)) (c_l_covered : Cl P w K mg base "_law_covered" (1) ["pile"] (spP K 1 f_l_covered)) (c_p_covered : Cl P w K mg base "covered" (2) ["pile"] (spP K 1 f_p_covered)) (c_l_same : Cl P w K mg base "_law_same" (9) ["found", "due"] (spP K 2 (f_l_same 8))) (z_dict : mg "dict" = none) (z_isinstance : mg "isinstance" = none) (z_range : mg "range" = none) (z_repr : mg "repr" = none) (z_sorted : mg "sorted" = none)
    (law : ∀ ns : List Int, ns.length ≤ 63 → ∃ c cs', op ns = some c ∧ m_law (.un :: c :: List.replicate 7 .un) = some (.rt (.fz (.bool true)) cs')) : Pr P w K mg base 10 f fd ["script"] (spLaw K 63) := by
  obtain ⟨tr, t1, t2⟩ := d_law (P := P) (w := w) (K := K) (mg := mg) (base := base) c_l_one_of c_l_draw_pile c_l_covered c_p_covered c_l_same z_dict z_isinstance z_range z_repr z_sorted
  exact pr_law (m := 7) Df sc_law rfl t2 (fun X hX => pss_cons (ps_first (F := (Fm.ofDef P w K mg base n_law (defScope s_law) (9) sc_law.nd)) ⟨c_l_open.ex⟩ (lvl_of rfl) rfl rfl rfl (vis_of rfl) (loc_of rfl) (lcl_of rfl) X hX) (t1 X hX)) law
theorem ok_l_spread {f : Addr} {fd : FuncData} (Df : Fun K "_law_spread" "_law_spread" s_l_spread f fd) (mf : mg "_law_spread" = some (.ref f))  (z_int : mg "int" = none)  : Cl P w K mg base "_law_spread" (1) ["cell", "at"] (spP K 2 f_l_spread) :=
  cl_mk Df mf (okP Df sc_l_spread (d_l_spread  z_int )) (fun _ _ _ _ _ _ us hl => match us, hl with | [_, _], _ => rfl)
theorem ok_l_take {f : Addr} {fd : FuncData} (Df : Fun K "_law_take" "_law_take" s_l_take f fd) (mf : mg "_law_take" = some (.ref f)) (c_l_spread : Cl P w K mg base "_law_spread" (1) ["cell", "at"] (spP K 2 f_l_spread)) (z_int : mg "int" = none) (z_len : mg "len" = none)  : Cl P w K mg base "_law_take" (2) ["pen", "amount"] (spQ K 2 f_l_take) :=
  cl_mk Df mf (okQ Df sc_l_take (Nat.le_refl _) (d_l_take c_l_spread z_int z_len )) (fun _ _ _ _ _ _ us hl => match us, hl with | [_, _], _ => rfl)
theorem ok_l_one_of {f : Addr} {fd : FuncData} (Df : Fun K "_law_one_of" "_law_one_of" s_l_one_of f fd) (mf : mg "_law_one_of" = some (.ref f)) (c_l_take : Cl P w K mg base "_law_take" (2) ["pen", "amount"] (spQ K 2 f_l_take)) (z_len : mg "len" = none)  : Cl P w K mg base "_law_one_of" (3) ["pen", "some"] (spQ K 2 f_l_one_of) :=
  cl_mk Df mf (okQ Df sc_l_one_of (Nat.le_refl _) (d_l_one_of c_l_take z_len )) (fun _ _ _ _ _ _ us hl => match us, hl with | [_, _], _ => rfl)
theorem ok_l_alphabet {f : Addr} {fd : FuncData} (Df : Fun K "_law_alphabet" "_law_alphabet" s_l_alphabet f fd) (mf : mg "_law_alphabet" = some (.ref f)) (c_l_take : Cl P w K mg base "_law_take" (2) ["pen", "amount"] (spQ K 2 f_l_take)) (c_l_one_of : Cl P w K mg base "_law_one_of" (3) ["pen", "some"] (spQ K 2 f_l_one_of))   : Cl P w K mg base "_law_alphabet" (4) ["pen"] (spQ K 1 f_l_alphabet) :=
  cl_mk Df mf (okQ Df sc_l_alphabet (Nat.le_refl _) (d_l_alphabet c_l_take c_l_one_of  )) (fun _ _ _ _ _ _ us hl => match us, hl with | [_], _ => rfl)
theorem ok_l_draw_picture {f : Addr} {fd : FuncData} (Df : Fun K "_law_draw_picture" "_law_draw_picture" s_l_draw_picture f fd) (mf : mg "_law_draw_picture" = some (.ref f)) (c_l_take : Cl P w K mg base "_law_take" (2) ["pen", "amount"] (spQ K 2 f_l_take)) (c_l_one_of : Cl P w K mg base "_law_one_of" (3) ["pen", "some"] (spQ K 2 f_l_one_of)) (z_list : mg "list" = none) (z_range : mg "range" = none) (z_tuple : mg "tuple" = none)  : Cl P w K mg base "_law_draw_picture" (4) ["pen", "rows", "columns", "letters"] (spQ K 4 f_l_draw_picture) :=
  cl_mk Df mf (okQ Df sc_l_draw_picture (Nat.le_refl _) (d_l_draw_picture c_l_take c_l_one_of z_list z_range z_tuple )) (fun _ _ _ _ _ _ us hl => match us, hl with | [_, _, _, _], _ => rfl)
theorem ok_l_draw_pile {f : Addr} {fd : FuncData} (Df : Fun K "_law_draw_pile" "_law_draw_pile" s_l_draw_pile f fd) (mf : mg "_law_draw_pile" = some (.ref f)) (c_l_take : Cl P w K mg base "_law_take" (2) ["pen", "amount"] (spQ K 2 f_l_take)) (c_l_alphabet : Cl P w K mg base "_law_alphabet" (4) ["pen"] (spQ K 1 f_l_alphabet)) (c_l_draw_picture : Cl P w K mg base "_law_draw_picture" (4) ["pen", "rows", "columns", "letters"] (spQ K 4 f_l_draw_picture)) (z_range : mg "range" = none) (z_tuple : mg "tuple" = none)  : Cl P w K mg base "_law_draw_pile" (5) ["pen", "many", "lines"] (spQ K 3 f_l_draw_pile) :=
  cl_mk Df mf (okQ Df sc_l_draw_pile (Nat.le_refl _) (d_l_draw_pile c_l_take c_l_alphabet c_l_draw_picture z_range z_tuple )) (fun _ _ _ _ _ _ us hl => match us, hl with | [_, _, _], _ => rfl)
theorem ok_l_covered {f : Addr} {fd : FuncData} (Df : Fun K "_law_covered" "_law_covered" s_l_covered f fd) (mf : mg "_law_covered" = some (.ref f))  (z_enumerate : mg "enumerate" = none)  : Cl P w K mg base "_law_covered" (1) ["pile"] (spP K 1 f_l_covered) :=
  cl_mk Df mf (okP Df sc_l_covered (d_l_covered  z_enumerate )) (fun _ _ _ _ _ _ us hl => match us, hl with | [_], _ => rfl)
theorem ok_p_letters_of {f : Addr} {fd : FuncData} (Df : Fun K "letters_of" "letters_of" s_p_letters_of f fd) (mf : mg "letters_of" = some (.ref f))  (z_enumerate : mg "enumerate" = none) {u_HOLE : Tok} (h_HOLE : mg "HOLE" = some (.str (Str.ofString ".") u_HOLE)) : Cl P w K mg base "letters_of" (1) ["sheet"] (spP K 1 f_p_letters_of) :=
  cl_mk Df mf (okP Df sc_p_letters_of (d_p_letters_of  z_enumerate h_HOLE)) (fun _ _ _ _ _ _ us hl => match us, hl with | [_], _ => rfl)
theorem ok_p_covered {f : Addr} {fd : FuncData} (Df : Fun K "covered" "covered" s_p_covered f fd) (mf : mg "covered" = some (.ref f)) (c_p_letters_of : Cl P w K mg base "letters_of" (1) ["sheet"] (spP K 1 f_p_letters_of)) (z_enumerate : mg "enumerate" = none)  : Cl P w K mg base "covered" (2) ["pile"] (spP K 1 f_p_covered) :=
  cl_mk Df mf (okP Df sc_p_covered (d_p_covered c_p_letters_of z_enumerate )) (fun _ _ _ _ _ _ us hl => match us, hl with | [_], _ => rfl)
theorem okn_l_same {f : Addr} {fd : FuncData} (Df : Fun K "_law_same" "_law_same" s_l_same f fd) (mf : mg "_law_same" = some (.ref f))  (z_bool : mg "bool" = none) (z_int : mg "int" = none) (z_isinstance : mg "isinstance" = none) (z_len : mg "len" = none) (z_list : mg "list" = none) (z_str : mg "str" = none) (z_tuple : mg "tuple" = none) (z_zip : mg "zip" = none)  : ∀ n : Nat, Cl P w K mg base "_law_same" (n + 1) ["found", "due"] (spP K 2 (f_l_same n))
  | 0 => cl_mk Df mf (pr_none 2 (fun _ => rfl) rfl) (fun _ _ _ _ _ _ us hl => match us, hl with | [_, _], _ => rfl)
  | n + 1 => by
    have ih := okn_l_same Df mf  z_bool z_int z_isinstance z_len z_list z_str z_tuple z_zip  n
    exact cl_mk Df mf (okP Df sc_l_same (d_l_same n ih z_bool z_int z_isinstance z_len z_list z_str z_tuple z_zip )) (fun _ _ _ _ _ _ us hl => match us, hl with | [_, _], _ => rfl)
theorem ok_l_same {f : Addr} {fd : FuncData} (Df : Fun K "_law_same" "_law_same" s_l_same f fd) (mf : mg "_law_same" = some (.ref f))  (z_bool : mg "bool" = none) (z_int : mg "int" = none) (z_isinstance : mg "isinstance" = none) (z_len : mg "len" = none) (z_list : mg "list" = none) (z_str : mg "str" = none) (z_tuple : mg "tuple" = none) (z_zip : mg "zip" = none)  : Cl P w K mg base "_law_same" (9) ["found", "due"] (spP K 2 (f_l_same 8)) := okn_l_same Df mf  z_bool z_int z_isinstance z_len z_list z_str z_tuple z_zip  8
end
theorem all_mk {l : PySem.W.OpenLaw} {w : World} {K : PySem.W.Frag} {h : Heap} {mg : Str → Option Value} {fa : Addr} (X : K.In h) (G : h.Ns mainGlobals mg) (hfa : mg "law" = some (.ref fa))
  (law : ∀ ns : List Int, ns.length ≤ 63 → ∃ c cs', op ns = some c ∧ m_law (.un :: c :: List.replicate 7 .un) = some (.rt (.fz (.bool true)) cs'))
  {a0 a1 a2 a3 a4 a5 a6 a7 a8 a9 a10 a11 : Addr}
  {od0 an0 : Option Addr} {sl0 : Array (Option Value)} {oc0 kV0 dc0 pm0 cd0 ct0 : Value}
  (n0 : PySem.W.nsIn K mainGlobals "_law_open" = some (some (.ref a0))) (l0 : K.lookup a0 = some ⟨oc0, od0, .func (PySem.W.fnOf "_law_open" "_law_open" (defArgs s_l_open) (defBody s_l_open) (defScope s_l_open) .none kV0 dc0 pm0 an0 cd0 ct0), sl0⟩) (c0 : PySem.W.codeIn K cd0 "_law_open" = true) (k0 : PySem.W.keepIn K (.ref a0) = true)
  {od1 an1 : Option Addr} {sl1 : Array (Option Value)} {oc1 kV1 dc1 pm1 cd1 ct1 : Value}
  (n1 : PySem.W.nsIn K mainGlobals "_law_spread" = some (some (.ref a1))) (l1 : K.lookup a1 = some ⟨oc1, od1, .func (PySem.W.fnOf "_law_spread" "_law_spread" (defArgs s_l_spread) (defBody s_l_spread) (defScope s_l_spread) .none kV1 dc1 pm1 an1 cd1 ct1), sl1⟩) (c1 : PySem.W.codeIn K cd1 "_law_spread" = true) (k1 : PySem.W.keepIn K (.ref a1) = true)
  {od2 an2 : Option Addr} {sl2 : Array (Option Value)} {oc2 kV2 dc2 pm2 cd2 ct2 : Value}
  (n2 : PySem.W.nsIn K mainGlobals "_law_take" = some (some (.ref a2))) (l2 : K.lookup a2 = some ⟨oc2, od2, .func (PySem.W.fnOf "_law_take" "_law_take" (defArgs s_l_take) (defBody s_l_take) (defScope s_l_take) .none kV2 dc2 pm2 an2 cd2 ct2), sl2⟩) (c2 : PySem.W.codeIn K cd2 "_law_take" = true) (k2 : PySem.W.keepIn K (.ref a2) = true)
  {od3 an3 : Option Addr} {sl3 : Array (Option Value)} {oc3 kV3 dc3 pm3 cd3 ct3 : Value}
  (n3 : PySem.W.nsIn K mainGlobals "_law_one_of" = some (some (.ref a3))) (l3 : K.lookup a3 = some ⟨oc3, od3, .func (PySem.W.fnOf "_law_one_of" "_law_one_of" (defArgs s_l_one_of) (defBody s_l_one_of) (defScope s_l_one_of) .none kV3 dc3 pm3 an3 cd3 ct3), sl3⟩) (c3 : PySem.W.codeIn K cd3 "_law_one_of" = true) (k3 : PySem.W.keepIn K (.ref a3) = true)
  {od4 an4 : Option Addr} {sl4 : Array (Option Value)} {oc4 kV4 dc4 pm4 cd4 ct4 : Value}
  (n4 : PySem.W.nsIn K mainGlobals "_law_alphabet" = some (some (.ref a4))) (l4 : K.lookup a4 = some ⟨oc4, od4, .func (PySem.W.fnOf "_law_alphabet" "_law_alphabet" (defArgs s_l_alphabet) (defBody s_l_alphabet) (defScope s_l_alphabet) .none kV4 dc4 pm4 an4 cd4 ct4), sl4⟩) (c4 : PySem.W.codeIn K cd4 "_law_alphabet" = true) (k4 : PySem.W.keepIn K (.ref a4) = true)
  {od5 an5 : Option Addr} {sl5 : Array (Option Value)} {oc5 kV5 dc5 pm5 cd5 ct5 : Value}
  (n5 : PySem.W.nsIn K mainGlobals "_law_draw_picture" = some (some (.ref a5))) (l5 : K.lookup a5 = some ⟨oc5, od5, .func (PySem.W.fnOf "_law_draw_picture" "_law_draw_picture" (defArgs s_l_draw_picture) (defBody s_l_draw_picture) (defScope s_l_draw_picture) .none kV5 dc5 pm5 an5 cd5 ct5), sl5⟩) (c5 : PySem.W.codeIn K cd5 "_law_draw_picture" = true) (k5 : PySem.W.keepIn K (.ref a5) = true)
  {od6 an6 : Option Addr} {sl6 : Array (Option Value)} {oc6 kV6 dc6 pm6 cd6 ct6 : Value}
  (n6 : PySem.W.nsIn K mainGlobals "_law_draw_pile" = some (some (.ref a6))) (l6 : K.lookup a6 = some ⟨oc6, od6, .func (PySem.W.fnOf "_law_draw_pile" "_law_draw_pile" (defArgs s_l_draw_pile) (defBody s_l_draw_pile) (defScope s_l_draw_pile) .none kV6 dc6 pm6 an6 cd6 ct6), sl6⟩) (c6 : PySem.W.codeIn K cd6 "_law_draw_pile" = true) (k6 : PySem.W.keepIn K (.ref a6) = true)
  {od7 an7 : Option Addr} {sl7 : Array (Option Value)} {oc7 kV7 dc7 pm7 cd7 ct7 : Value}
  (n7 : PySem.W.nsIn K mainGlobals "_law_covered" = some (some (.ref a7))) (l7 : K.lookup a7 = some ⟨oc7, od7, .func (PySem.W.fnOf "_law_covered" "_law_covered" (defArgs s_l_covered) (defBody s_l_covered) (defScope s_l_covered) .none kV7 dc7 pm7 an7 cd7 ct7), sl7⟩) (c7 : PySem.W.codeIn K cd7 "_law_covered" = true) (k7 : PySem.W.keepIn K (.ref a7) = true)
  {od8 an8 : Option Addr} {sl8 : Array (Option Value)} {oc8 kV8 dc8 pm8 cd8 ct8 : Value}
  (n8 : PySem.W.nsIn K mainGlobals "letters_of" = some (some (.ref a8))) (l8 : K.lookup a8 = some ⟨oc8, od8, .func (PySem.W.fnOf "letters_of" "letters_of" (defArgs s_p_letters_of) (defBody s_p_letters_of) (defScope s_p_letters_of) .none kV8 dc8 pm8 an8 cd8 ct8), sl8⟩) (c8 : PySem.W.codeIn K cd8 "letters_of" = true) (k8 : PySem.W.keepIn K (.ref a8) = true)
  {od9 an9 : Option Addr} {sl9 : Array (Option Value)} {oc9 kV9 dc9 pm9 cd9 ct9 : Value}
  (n9 : PySem.W.nsIn K mainGlobals "covered" = some (some (.ref a9))) (l9 : K.lookup a9 = some ⟨oc9, od9, .func (PySem.W.fnOf "covered" "covered" (defArgs s_p_covered) (defBody s_p_covered) (defScope s_p_covered) .none kV9 dc9 pm9 an9 cd9 ct9), sl9⟩) (c9 : PySem.W.codeIn K cd9 "covered" = true) (k9 : PySem.W.keepIn K (.ref a9) = true)
  {od10 an10 : Option Addr} {sl10 : Array (Option Value)} {oc10 kV10 dc10 pm10 cd10 ct10 : Value}
  (n10 : PySem.W.nsIn K mainGlobals "_law_same" = some (some (.ref a10))) (l10 : K.lookup a10 = some ⟨oc10, od10, .func (PySem.W.fnOf "_law_same" "_law_same" (defArgs s_l_same) (defBody s_l_same) (defScope s_l_same) .none kV10 dc10 pm10 an10 cd10 ct10), sl10⟩) (c10 : PySem.W.codeIn K cd10 "_law_same" = true) (k10 : PySem.W.keepIn K (.ref a10) = true)
  {od11 an11 : Option Addr} {sl11 : Array (Option Value)} {oc11 kV11 dc11 pm11 cd11 ct11 : Value}
  (n11 : PySem.W.nsIn K mainGlobals "law" = some (some (.ref a11))) (l11 : K.lookup a11 = some ⟨oc11, od11, .func (PySem.W.fnOf "law" "law" (defArgs s_law) (defBody s_law) (defScope s_law) .none kV11 dc11 pm11 an11 cd11 ct11), sl11⟩) (c11 : PySem.W.codeIn K cd11 "law" = true) (k11 : PySem.W.keepIn K (.ref a11) = true)
  (z_bool : PySem.W.nsIn K mainGlobals "bool" = some none)
  (z_dict : PySem.W.nsIn K mainGlobals "dict" = some none)
  (z_enumerate : PySem.W.nsIn K mainGlobals "enumerate" = some none)
  (z_int : PySem.W.nsIn K mainGlobals "int" = some none)
  (z_isinstance : PySem.W.nsIn K mainGlobals "isinstance" = some none)
  (z_len : PySem.W.nsIn K mainGlobals "len" = some none)
  (z_list : PySem.W.nsIn K mainGlobals "list" = some none)
  (z_range : PySem.W.nsIn K mainGlobals "range" = some none)
  (z_repr : PySem.W.nsIn K mainGlobals "repr" = some none)
  (z_sorted : PySem.W.nsIn K mainGlobals "sorted" = some none)
  (z_str : PySem.W.nsIn K mainGlobals "str" = some none)
  (z_tuple : PySem.W.nsIn K mainGlobals "tuple" = some none)
  (z_zip : PySem.W.nsIn K mainGlobals "zip" = some none)
  {u_HOLE : Tok} (h_HOLE : PySem.W.nsIn K mainGlobals "HOLE" = some (some (.str (Str.ofString ".") u_HOLE))) :
    ∃ fd : FuncData, (∀ (s : Shared) (v : Value), BindsTo s fd ⟨[v], []⟩ [("script", v)]) ∧ ∀ base : Heap, K.In base → base.Ns mainGlobals mg → Pr l.prog w K mg base 10 fa fd ["script"] (spLaw K 63) := by
  have e := hfa.symm.trans (PySem.W.mg_of X G n11)
  cases e
  have F0 := fun_mk (st := s_l_open) l0 c0 k0
  have m0 := PySem.W.mg_of X G n0
  have F1 := fun_mk (st := s_l_spread) l1 c1 k1
  have m1 := PySem.W.mg_of X G n1
  have F2 := fun_mk (st := s_l_take) l2 c2 k2
  have m2 := PySem.W.mg_of X G n2
  have F3 := fun_mk (st := s_l_one_of) l3 c3 k3
  have m3 := PySem.W.mg_of X G n3
  have F4 := fun_mk (st := s_l_alphabet) l4 c4 k4
  have m4 := PySem.W.mg_of X G n4
  have F5 := fun_mk (st := s_l_draw_picture) l5 c5 k5
  have m5 := PySem.W.mg_of X G n5
  have F6 := fun_mk (st := s_l_draw_pile) l6 c6 k6
  have m6 := PySem.W.mg_of X G n6
  have F7 := fun_mk (st := s_l_covered) l7 c7 k7
  have m7 := PySem.W.mg_of X G n7
  have F8 := fun_mk (st := s_p_letters_of) l8 c8 k8
  have m8 := PySem.W.mg_of X G n8
  have F9 := fun_mk (st := s_p_covered) l9 c9 k9
  have m9 := PySem.W.mg_of X G n9
  have F10 := fun_mk (st := s_l_same) l10 c10 k10
  have m10 := PySem.W.mg_of X G n10
  have F11 := fun_mk (st := s_law) l11 c11 k11
  have m11 := PySem.W.mg_of X G n11
  have z_bool := PySem.W.mg_none_of X G z_bool
  have z_dict := PySem.W.mg_none_of X G z_dict
  have z_enumerate := PySem.W.mg_none_of X G z_enumerate
  have z_int := PySem.W.mg_none_of X G z_int
  have z_isinstance := PySem.W.mg_none_of X G z_isinstance
  have z_len := PySem.W.mg_none_of X G z_len
  have z_list := PySem.W.mg_none_of X G z_list
  have z_range := PySem.W.mg_none_of X G z_range
  have z_repr := PySem.W.mg_none_of X G z_repr
  have z_sorted := PySem.W.mg_none_of X G z_sorted
  have z_str := PySem.W.mg_none_of X G z_str
  have z_tuple := PySem.W.mg_none_of X G z_tuple
  have z_zip := PySem.W.mg_none_of X G z_zip
  have h_HOLE := PySem.W.mg_of X G h_HOLE
  refine ⟨PySem.W.fnOf "law" "law" (defArgs s_law) (defBody s_law) (defScope s_law) .none kV11 dc11 pm11 an11 cd11 ct11, fun s v => .of_eq rfl, fun base _ _ => ?_⟩
  have c_l_open : Cl l.prog w K mg base "_law_open" 1 ["script"] (spOpen K op) := cl_mk F0 m0 (ok_open F0 z_list z_enumerate z_int) (fun _ _ _ _ _ _ us hl => match us, hl with | [_], _ => rfl)
  have c_l_spread := ok_l_spread (P := l.prog) (w := w) (base := base) F1 m1  z_int 
  have c_l_take := ok_l_take (P := l.prog) (w := w) (base := base) F2 m2 c_l_spread z_int z_len 
  have c_l_one_of := ok_l_one_of (P := l.prog) (w := w) (base := base) F3 m3 c_l_take z_len 
  have c_l_alphabet := ok_l_alphabet (P := l.prog) (w := w) (base := base) F4 m4 c_l_take c_l_one_of  
  have c_l_draw_picture := ok_l_draw_picture (P := l.prog) (w := w) (base := base) F5 m5 c_l_take c_l_one_of z_list z_range z_tuple 
  have c_l_draw_pile := ok_l_draw_pile (P := l.prog) (w := w) (base := base) F6 m6 c_l_take c_l_alphabet c_l_draw_picture z_range z_tuple 
  have c_l_covered := ok_l_covered (P := l.prog) (w := w) (base := base) F7 m7  z_enumerate 
  have c_p_letters_of := ok_p_letters_of (P := l.prog) (w := w) (base := base) F8 m8  z_enumerate h_HOLE
  have c_p_covered := ok_p_covered (P := l.prog) (w := w) (base := base) F9 m9 c_p_letters_of z_enumerate 
  have c_l_same := ok_l_same (P := l.prog) (w := w) (base := base) F10 m10  z_bool z_int z_isinstance z_len z_list z_str z_tuple z_zip 
  exact ok_law F11 c_l_open c_l_one_of c_l_draw_pile c_l_covered c_p_covered c_l_same z_dict z_isinstance z_range z_repr z_sorted law

end Mi

/-! P1: the pen. -/
namespace Mi
open PySem PySem.Spec PyProof.Rows L2

theorem r_seq {a b : MB} {cs c1 : List Cell} {r : Option Fl} (h : a cs = some (.nx c1)) (g : b c1 = r) : mSeq a b cs = r := by
  unfold mSeq
  rw [h]
  exact g
theorem r_seqR {a b : MB} {cs c1 : List Cell} {c : Cell} (h : a cs = some (.rt c c1)) : mSeq a b cs = some (.rt c c1) := by
  unfold mSeq
  rw [h]
theorem fnP_run {b : MB} {n : Nat} {ds : List D} {c : Cell} {cs' : List Cell} (h : b (ds.map .fz ++ List.replicate (n - ds.length) .un) = some (.rt c cs')) : fnP b n ds = some c := by
  unfold fnP
  rw [h]
theorem fnQ_run {b : MB} {n : Nat} {ds : List D} {pc c pc' : Cell} {cs' : List Cell} (h : b (pc :: (ds.map .fz ++ List.replicate (n - (ds.length + 1)) .un)) = some (.rt c (pc' :: cs'))) : fnQ b n pc ds = some (c, pc') := by
  unfold fnQ
  rw [h]
theorem mulOk_r {i j : Int} (h0 : -(2 ^ 64) < j) (h1 : j < 2 ^ 64) : mulOk i j = true := by
  unfold mulOk
  simp only [Bool.or_eq_true, Bool.and_eq_true, decide_eq_true_eq]
  exact .inr ⟨h0, h1⟩
theorem mulOk_l {i j : Int} (h0 : -(2 ^ 64) < i) (h1 : i < 2 ^ 64) : mulOk i j = true := by
  unfold mulOk
  simp only [Bool.or_eq_true, Bool.and_eq_true, decide_eq_true_eq]
  exact .inl ⟨h0, h1⟩
def primesL : List D := [.int 2147483629, .int 2147483587, .int 2147483579, .int 2147483563, .int 2147483549, .int 2147483543, .int 2147483497, .int 2147483489, .int 2147483477, .int 2147483423, .int 2147483399, .int 2147483353, .int 2147483323]
theorem primes_at (k : Int) (h0 : 0 ≤ k) (h1 : k < 13) : ∃ q : Int, ixD (.list primesL) (.int k) = some (.int q) ∧ 0 < q ∧ q < 2147483648 := by
  have : ∀ j < 13, ∃ q ∈ [2147483629, 2147483587, 2147483579, 2147483563, 2147483549, 2147483543, 2147483497, 2147483489, 2147483477, 2147483423, 2147483399, 2147483353, (2147483323 : Int)], (atI primesL (j : Nat)) = some (.int q) := by
    intro j hj
    have : j = 0 ∨ j = 1 ∨ j = 2 ∨ j = 3 ∨ j = 4 ∨ j = 5 ∨ j = 6 ∨ j = 7 ∨ j = 8 ∨ j = 9 ∨ j = 10 ∨ j = 11 ∨ j = 12 := by omega
    rcases this with rfl | rfl | rfl | rfl | rfl | rfl | rfl | rfl | rfl | rfl | rfl | rfl | rfl <;> exact ⟨_, by simp, rfl⟩
  obtain ⟨q, hq, e⟩ := this k.toNat (by omega)
  rw [Int.toNat_of_nonneg h0] at e
  refine ⟨q, e, ?_⟩
  simp at hq
  omega
theorem pow_ok {i : Int} {k : Nat} (h0 : 0 ≤ i) (h1 : i < 2 ^ 64) : i.natAbs < 2 ^ 64 := by omega
theorem spread_run (cell at' : Int) (h0 : 0 ≤ at') (h1 : at' < 1000000) : ∃ z, f_l_spread [.int cell, .int at'] = some (.fz (.int z)) := by
  by_cases hc : (1000000000000000000 : Int) ≤ cell
  · refine ⟨cell, ?_⟩
    simp [f_l_spread, fnP, m_l_spread, mSeq, mIfS, mTest, mOp, mVar, mC, geD, powD, mRet, hc]
  · have m1 : mulOk (cell % 1000000007) (2 * at' + 69069) = true := mulOk_r (by omega) (by omega)
    have m2 : mulOk 2 at' = true := mulOk_r (by omega) (by omega)
    have m3 : mulOk at' 40503 = true := mulOk_r (by omega) (by omega)
    have e1 : (cell % 1000000007) * (2 * at' + 69069) < 1000000007 * 2069069 := by
      have a1 : cell % 1000000007 < 1000000007 := Int.emod_lt_of_pos _ (by omega)
      have a2 : 0 ≤ cell % 1000000007 := Int.emod_nonneg _ (by omega)
      calc (cell % 1000000007) * (2 * at' + 69069) ≤ 1000000006 * (2 * at' + 69069) := Int.mul_le_mul_of_nonneg_right (by omega) (by omega)
        _ < 1000000007 * 2069069 := by omega
    have e2 : 0 ≤ (cell % 1000000007) * (2 * at' + 69069) := Int.mul_nonneg (Int.emod_nonneg _ (by omega)) (by omega)
    obtain ⟨one, ho, o1, o2⟩ : ∃ one : Int, (cell % 1000000007) * (2 * at' + 69069) + at' * 40503 + 977 = one ∧ 0 ≤ one ∧ one < 2 ^ 63 := ⟨_, rfl, by omega, by omega⟩
    obtain ⟨q1, p1, p2, p3⟩ := primes_at (at' % 13) (Int.emod_nonneg _ (by omega)) (Int.emod_lt_of_pos _ (by omega))
    obtain ⟨q2, p4, p5, p6⟩ := primes_at ((at' + 5) % 13) (Int.emod_nonneg _ (by omega)) (Int.emod_lt_of_pos _ (by omega))
    obtain ⟨q3, p7, p8, p9⟩ := primes_at ((at' + 7) % 13) (Int.emod_nonneg _ (by omega)) (Int.emod_lt_of_pos _ (by omega))
    obtain ⟨on2, h2, b1, b2⟩ : ∃ on2 : Int, one ^ 3 % q1 = on2 ∧ 0 ≤ on2 ∧ on2 < 2147483648 := ⟨_, rfl, Int.emod_nonneg _ (by omega), by have := Int.emod_lt_of_pos (one ^ 3) p2; omega⟩
    have m4 : mulOk on2 (at' + 3) = true := mulOk_r (by omega) (by omega)
    have e3 : on2 * (at' + 3) < 2147483648 * 1000003 := by
      calc on2 * (at' + 3) ≤ 2147483647 * (at' + 3) := Int.mul_le_mul_of_nonneg_right (by omega) (by omega)
        _ < 2147483648 * 1000003 := by omega
    have e4 : 0 ≤ on2 * (at' + 3) := Int.mul_nonneg (by omega) (by omega)
    obtain ⟨tw, ht, t1, t2⟩ : ∃ tw : Int, on2 * (at' + 3) + cell % 65537 + 5 = tw ∧ 0 ≤ tw ∧ tw < 2 ^ 63 := ⟨_, rfl, by have := Int.emod_nonneg cell (show (65537 : Int) ≠ 0 by omega); omega, by have := Int.emod_lt_of_pos cell (show (0 : Int) < 65537 by omega); omega⟩
    obtain ⟨two, h3, b3, b4⟩ : ∃ two : Int, tw ^ 5 % q2 = two ∧ 0 ≤ two ∧ two < 2147483648 := ⟨_, rfl, Int.emod_nonneg _ (by omega), by have := Int.emod_lt_of_pos (tw ^ 5) p5; omega⟩
    obtain ⟨th, h4, t3, t4⟩ : ∃ th : Int, two + on2 % 1009 + at' = th ∧ 0 ≤ th ∧ th < 2 ^ 63 := ⟨_, rfl, by have := Int.emod_nonneg on2 (show (1009 : Int) ≠ 0 by omega); omega, by have := Int.emod_lt_of_pos on2 (show (0 : Int) < 1009 by omega); omega⟩
    obtain ⟨three, h5⟩ : ∃ three : Int, th ^ 3 % q3 = three := ⟨_, rfl⟩
    have n1 : one.natAbs < 18446744073709551616 := by omega
    have n2 : tw.natAbs < 18446744073709551616 := by omega
    have n3 : th.natAbs < 18446744073709551616 := by omega
    have m5 : mulOk on2 2147483647 = true := mulOk_r (by omega) (by omega)
    have m6 : mulOk (on2 * 2147483647 + two) 2147483647 = true := mulOk_r (by omega) (by omega)
    refine ⟨(on2 * 2147483647 + two) * 2147483647 + three, fnP_run (c := .fz (.int ((on2 * 2147483647 + two) * 2147483647 + three))) (cs' := [.fz (.int cell), .fz (.int at'), .fz (.list primesL), .fz (.int on2), .fz (.int two), .fz (.int three)]) ?_⟩
    unfold m_l_spread
    refine r_seq (c1 := [.fz (.int cell), .fz (.int at'), .un, .un, .un, .un]) (by simp [mIfS, mTest, mOp, mVar, mC, geD, powD, mNx, hc]) ?_
    refine r_seq (c1 := [.fz (.int cell), .fz (.int at'), .fz (.list (primesL.take 8)), .un, .un, .un]) (by simp [mSet, mLst, mCons, mNil, mC, LIM, primesL]) ?_
    refine r_seq (c1 := [.fz (.int cell), .fz (.int at'), .fz (.list primesL), .un, .un, .un]) (by simp [mSet, mOp, mVar, mLst, mCons, mNil, mC, LIM, primesL, addD]) ?_
    refine r_seq (c1 := [.fz (.int cell), .fz (.int at'), .fz (.list primesL), .fz (.int one), .un, .un]) (by simp [mSet, mOp, mVar, mC, mCall, mCons, mNil, intD, modD, mulD, addD, m1, m2, m3, ho]) ?_
    refine r_seq (c1 := [.fz (.int cell), .fz (.int at'), .fz (.list primesL), .fz (.int on2), .un, .un]) (by simp [mSet, mOp, mVar, mC, mCall, mCons, mNil, intD, modD, powD, n1, p1, p2, h2]) ?_
    refine r_seq (c1 := [.fz (.int cell), .fz (.int at'), .fz (.list primesL), .fz (.int on2), .fz (.int two), .un]) (by simp [mSet, mOp, mVar, mC, mCall, mCons, mNil, intD, modD, mulD, addD, powD, n2, p4, p5, h3, ht, m4]) ?_
    refine r_seq (c1 := [.fz (.int cell), .fz (.int at'), .fz (.list primesL), .fz (.int on2), .fz (.int two), .fz (.int three)]) (by simp [mSet, mOp, mVar, mC, mCall, mCons, mNil, intD, modD, mulD, addD, powD, n3, p7, p8, h4, h5]) ?_
    simp [mRet, mOp, mVar, mC, mulD, addD, m5, m6]
end Mi

/-! P2: a draw of the pen. -/
namespace Mi
open PySem PySem.Spec PyProof.Rows L2

def penC (ns : List Int) (i n : Int) : Cell := .ow .pen (.list [.list (ns.map .int), .int i, .int n])
def Pen (b : Int) (c : Cell) : Prop := ∃ ns i n, c = penC ns i n ∧ 0 ≤ i ∧ i ≤ b
theorem Pen.mono {b b' : Int} {c : Cell} (h : Pen b c) (le : b ≤ b') : Pen b' c := by
  obtain ⟨ns, i, n, e, h0, h1⟩ := h
  exact ⟨ns, i, n, e, h0, by omega⟩
theorem ix_ints (ns : List Int) (k : Int) (h0 : 0 ≤ k) (h1 : k < ns.length) : ∃ v : Int, ixD (.list (ns.map .int)) (.int k) = some (.int v) := by
  refine ⟨ns[k.toNat]'(by omega), ?_⟩
  show atI (ns.map PyData.int) k = _
  unfold atI ixN
  rw [List.length_map, if_pos h0, if_pos h1]
  simp
theorem ix3_0 (a b c : D) : ixD (.list [a, b, c]) (.int 0) = some a := rfl
theorem ix3_1 (a b c : D) : ixD (.list [a, b, c]) (.int 1) = some b := rfl
theorem ix3_2 (a b c : D) : ixD (.list [a, b, c]) (.int 2) = some c := rfl
def m_block : MB := (mSeq (mSet 3 (mVol (mOp ixD (mVar 0) (mC (.int 1)))))
    (mSeq (mSet 4 (mC (.int 0)))
    (mSeq (mIfS (mVolT (mTest (mOp ltD (mVar 3) (mCall lenD (mCons (mOp ixD (mVar 0) (mC (.int 0))) mNil))))) (mSet 4 (mVol (mOp ixD (mOp ixD (mVar 0) (mC (.int 0))) (mVar 3)))) (mIfS (mVolT (mTest (mOp gtD (mCall lenD (mCons (mOp ixD (mVar 0) (mC (.int 0))) mNil)) (mC (.int 0))))) (mSet 4 (mVol (mOp modD (mCall intD (mCons (mOp ixD (mOp ixD (mVar 0) (mC (.int 0))) (mOp modD (mCall intD (mCons (mOp addD (mOp mulD (mVar 3) (mC (.int 5))) (mC (.int 3))) mNil)) (mCall lenD (mCons (mOp ixD (mVar 0) (mC (.int 0))) mNil)))) mNil)) (mOp addD (mOp powD (mC (.int 10)) (mC (.int 17))) (mVar 3))))) mNx))
    (mSeq (mStore 0 (mC (.int 1)) (mOp addD (mVar 3) (mC (.int 1))))
    (mStore 0 (mC (.int 2)) (mFrz (mCallP f_l_spread (mCons (mVar 4) (mCons (mVar 3) mNil)))))))))
theorem block_run (ns : List Int) (i n a : Int) (h0 : 0 ≤ i) (h1 : i < 1000000) : ∃ z cv, m_block [penC ns i n, .fz (.int a), .un, .un, .un] = some (.nx [penC ns (i + 1) z, .fz (.int a), .un, .fz (.int i), .fz (.int cv)]) := by
  have cell : ∃ cv, (mIfS (mVolT (mTest (mOp ltD (mVar 3) (mCall lenD (mCons (mOp ixD (mVar 0) (mC (.int 0))) mNil))))) (mSet 4 (mVol (mOp ixD (mOp ixD (mVar 0) (mC (.int 0))) (mVar 3)))) (mIfS (mVolT (mTest (mOp gtD (mCall lenD (mCons (mOp ixD (mVar 0) (mC (.int 0))) mNil)) (mC (.int 0))))) (mSet 4 (mVol (mOp modD (mCall intD (mCons (mOp ixD (mOp ixD (mVar 0) (mC (.int 0))) (mOp modD (mCall intD (mCons (mOp addD (mOp mulD (mVar 3) (mC (.int 5))) (mC (.int 3))) mNil)) (mCall lenD (mCons (mOp ixD (mVar 0) (mC (.int 0))) mNil)))) mNil)) (mOp addD (mOp powD (mC (.int 10)) (mC (.int 17))) (mVar 3))))) mNx))
      [penC ns i n, .fz (.int a), .un, .fz (.int i), .fz (.int 0)] = some (.nx [penC ns i n, .fz (.int a), .un, .fz (.int i), .fz (.int cv)]) := by
    by_cases hl : i < ns.length
    · obtain ⟨v, hv⟩ := ix_ints ns i h0 hl
      refine ⟨v, ?_⟩
      simp [mIfS, mVolT, frz, penC, mTest, mOp, mVar, mC, mCall, mCons, mNil, lenD, ltD, ix3_0, hl, mSet, mVol, hv, imm]
    · by_cases hp : (0 : Int) < ns.length
      · have m1 : mulOk i 5 = true := mulOk_r (by omega) (by omega)
        obtain ⟨v, hv⟩ := ix_ints ns ((i * 5 + 3) % ns.length) (Int.emod_nonneg _ (by omega)) (Int.emod_lt_of_pos _ hp)
        have hp' : 0 < ns.length := by omega
        have hq : 0 < 100000000000000000 + i := by omega
        refine ⟨v % (100000000000000000 + i), ?_⟩
        simp [mIfS, mVolT, frz, penC, mTest, mOp, mVar, mC, mCall, mCons, mNil, lenD, ltD, gtD, ix3_0, hl, hp, hp', mSet, mVol, hv, imm, addD, mulD, modD, powD, intD, m1, hq]
      · have hp' : ¬ 0 < ns.length := by omega
        refine ⟨0, ?_⟩
        simp [mIfS, mVolT, frz, penC, mTest, mOp, mVar, mC, mCall, mCons, mNil, lenD, ltD, gtD, ix3_0, hl, hp, hp', mNx]
  obtain ⟨cv, hcv⟩ := cell
  obtain ⟨z, hz⟩ := spread_run cv i h0 h1
  refine ⟨z, cv, ?_⟩
  unfold m_block
  refine r_seq (c1 := [penC ns i n, .fz (.int a), .un, .fz (.int i), .un]) (by simp [mSet, mVol, frz, penC, mOp, mVar, mC, ix3_1, imm]) ?_
  refine r_seq (c1 := [penC ns i n, .fz (.int a), .un, .fz (.int i), .fz (.int 0)]) (by simp [mSet, mC]) ?_
  refine r_seq hcv ?_
  refine r_seq (c1 := [penC ns (i + 1) n, .fz (.int a), .un, .fz (.int i), .fz (.int cv)]) (by simp [mStore, penC, mOp, mVar, mC, addD, storeAs, cellAs]) ?_
  simp [mStore, penC, mFrz, mCallP, mCons, mNil, mVar, mC, hz, storeAs, cellAs]
theorem take_run {b a : Int} {c : Cell} (hc : Pen b c) (hb : b < 1000000) (h0 : 0 < a) (h1 : a < 1073741824) : ∃ r c', f_l_take c [.int a] = some (.fz (.int r), c') ∧ 0 ≤ r ∧ r < a ∧ Pen (b + 1) c' := by
  obtain ⟨ns, i, n, rfl, i0, i1⟩ := hc
  have first : ∃ j z x y, (mIfS (mVolT (mTest (mOp ltD (mOp ixD (mVar 0) (mC (.int 2))) (mVar 1)))) m_block mNx) [penC ns i n, .fz (.int a), .un, .un, .un] = some (.nx [penC ns j z, .fz (.int a), .un, x, y]) ∧ 0 ≤ j ∧ j ≤ b + 1 := by
    by_cases hn : n < a
    · obtain ⟨z, cv, hz⟩ := block_run ns i n a i0 (by omega)
      refine ⟨i + 1, z, .fz (.int i), .fz (.int cv), ?_, by omega, by omega⟩
      have : mVolT (mTest (mOp ltD (mOp ixD (mVar 0) (mC (.int 2))) (mVar 1))) [penC ns i n, .fz (.int a), .un, .un, .un] = some (true, [penC ns i n, .fz (.int a), .un, .un, .un]) := by
        simp [mVolT, frz, penC, mTest, mOp, mVar, mC, ltD, ix3_2, hn]
      unfold mIfS
      rw [this]
      exact hz
    · refine ⟨i, n, .un, .un, ?_, i0, by omega⟩
      simp [mIfS, mVolT, frz, penC, mTest, mOp, mVar, mC, ltD, ix3_2, hn, mNx]
  obtain ⟨j, z, x, y, e1, j0, j1⟩ := first
  refine ⟨z % a, penC ns j (z / a), fnQ_run (cs' := [.fz (.int a), .fz (.int (z % a)), x, y]) ?_, Int.emod_nonneg _ (by omega), Int.emod_lt_of_pos _ h0, ns, j, _, rfl, j0, j1⟩
  have : m_l_take = mSeq (mIfS (mVolT (mTest (mOp ltD (mOp ixD (mVar 0) (mC (.int 2))) (mVar 1)))) m_block mNx) (mSeq (mSet 2 (mVol (mOp modD (mCall intD (mCons (mOp ixD (mVar 0) (mC (.int 2))) mNil)) (mVar 1))))
    (mSeq (mStore 0 (mC (.int 2)) (mVol (mOp fdivD (mOp ixD (mVar 0) (mC (.int 2))) (mVar 1))))
    (mRet (mVar 2)))) := rfl
  rw [this]
  refine r_seq e1 ?_
  have hx : frz [x, y] = frz [x, y] := rfl
  have f1 : ∀ l : List Cell, frz (penC ns j z :: l) = .fz (.list [.list (ns.map .int), .int j, .int z]) :: frz l := fun _ => rfl
  refine r_seq (c1 := [penC ns j z, .fz (.int a), .fz (.int (z % a)), x, y]) (by simp [mSet, mVol, f1, frz, mOp, mVar, mC, mCall, mCons, mNil, ix3_2, intD, modD, h0, imm]) ?_
  refine r_seq (c1 := [penC ns j (z / a), .fz (.int a), .fz (.int (z % a)), x, y]) (by
    have e : mVol (mOp fdivD (mOp ixD (mVar 0) (mC (.int 2))) (mVar 1)) [penC ns j z, .fz (.int a), .fz (.int (z % a)), x, y] = some (.fz (.int (z / a)), [penC ns j z, .fz (.int a), .fz (.int (z % a)), x, y]) := by
      simp [mVol, f1, frz, mOp, mVar, mC, ix3_2, fdivD, h0, h1, imm]
    unfold mStore
    rw [e]
    simp [penC, mC, storeAs, cellAs]) ?_
  simp [mRet, mVar]
end Mi

/-! P3: loops; drawing from a list, letters. -/
namespace Mi
open PySem PySem.Spec PyProof.Rows L2

theorem forGo_ind {mg : MG} {b : MB} (I : Nat → List Cell → Prop) : ∀ (ds : List D) (cs : List Cell) (k : Nat), I k cs → (∀ i d cs, ds[i]? = some d → I (k + i) cs → ∃ c1 c2, mg d cs = some c1 ∧ b c1 = some (.nx c2) ∧ I (k + i + 1) c2) → ∃ cs', forGo mg b ds cs = some (.nx cs') ∧ I (k + ds.length) cs'
  | [], cs, k, h, _ => ⟨cs, rfl, h⟩
  | d :: ds, cs, k, h, step => by
    obtain ⟨c1, c2, e1, e2, h2⟩ := step 0 d cs rfl h
    obtain ⟨cs', e3, h3⟩ := forGo_ind I ds c2 (k + 1) h2 fun i d' cs' hd hi => by
      have := step (i + 1) d' cs' (by simpa using hd) (by rw [show k + (i + 1) = k + 1 + i by omega]; exact hi)
      rw [show k + (i + 1) + 1 = k + 1 + i + 1 by omega] at this
      exact this
    refine ⟨cs', ?_, ?_⟩
    · unfold forGo
      rw [e1]
      simp only []
      rw [e2]
      exact e3
    · rw [List.length_cons, show k + (ds.length + 1) = k + 1 + ds.length by omega]
      exact h3
theorem lcGo_ind {vs : List Nat} {mg : MG} {me : M} (I : Nat → List D → List Cell → Prop) : ∀ (ds : List D) (cs : List Cell) (k : Nat) (acc : List D), I k acc cs → (∀ i d acc cs, ds[i]? = some d → I (k + i) acc cs → ∃ c1 y c2, mg d (wipeC cs vs) = some c1 ∧ me c1 = some (.fz y, c2) ∧ I (k + i + 1) (acc ++ [y]) c2) →
    ∃ ys cs', lcGo vs mg mYes me ds cs = some (ys, cs') ∧ I (k + ds.length) (acc ++ ys) cs'
  | [], cs, k, acc, h, _ => ⟨[], cs, rfl, by simpa using h⟩
  | d :: ds, cs, k, acc, h, step => by
    obtain ⟨c1, y, c2, e1, e2, h2⟩ := step 0 d acc cs rfl h
    obtain ⟨ys, cs', e3, h3⟩ := lcGo_ind I ds c2 (k + 1) (acc ++ [y]) h2 fun i d' a' cs' hd hi => by
      have := step (i + 1) d' a' cs' (by simpa using hd) (by rw [show k + (i + 1) = k + 1 + i by omega]; exact hi)
      rw [show k + (i + 1) + 1 = k + 1 + i + 1 by omega] at this
      exact this
    refine ⟨y :: ys, cs', ?_, ?_⟩
    · unfold lcGo
      rw [e1]
      simp only [mYes]
      rw [e2]
      simp only []
      rw [e3]
    · rw [List.length_cons, show k + (ds.length + 1) = k + 1 + ds.length by omega]
      simpa using h3
theorem callQ_run {g : Cell → List D → Option (Cell × Cell)} {i : Nat} {ma : MA} {cs c1 : List Cell} {s s' : Sh} {d d' : D} {ds : List D} {c pc : Cell} (h0 : cs[i]? = some (.ow s d)) (h1 : ma cs = some (ds, c1)) (h2 : c1[i]? = some (.ow s' d')) (h3 : g (.ow s' d') ds = some (c, pc)) : mCallQ g i ma cs = some (c, c1.set i pc) := by
  unfold mCallQ
  rw [h0]
  simp only []
  rw [h1]
  simp only []
  rw [h2]
  simp only []
  rw [h3]
theorem one_of_run {b : Int} {c : Cell} {ds : List D} (hc : Pen b c) (hb : b < 1000000) (h0 : 0 < ds.length) (h1 : ds.length < 1073741824) : ∃ d c', f_l_one_of c [.list ds] = some (.fz d, c') ∧ d ∈ ds ∧ Pen (b + 1) c' := by
  obtain ⟨r, c', e, r0, r1, p⟩ := take_run hc hb (a := ds.length) (by omega) (by omega)
  obtain ⟨ns, i, n, rfl, i0, i1⟩ := hc
  obtain ⟨ns', i', n', rfl, j0, j1⟩ := p
  have at' : ixD (.list ds) (.int r) = some (ds[r.toNat]'(by omega)) := by
    show atI ds r = _
    unfold atI ixN
    rw [if_pos r0, if_pos r1]
    simp
  refine ⟨ds[r.toNat]'(by omega), penC ns' i' n', fnQ_run (cs' := [.fz (.list ds)]) ?_, List.getElem_mem _, ns', i', n', rfl, j0, j1⟩
  have q : mCallQ f_l_take 0 (mCons (mCall lenD (mCons (mVar 1) mNil)) mNil) [penC ns i n, .fz (.list ds)] = some (.fz (.int r), [penC ns' i' n', .fz (.list ds)]) :=
    callQ_run (c1 := [penC ns i n, .fz (.list ds)]) rfl (by simp [mCons, mCall, mVar, mNil, lenD]) rfl e
  show m_l_one_of [penC ns i n, .fz (.list ds)] = _
  unfold m_l_one_of mRet mOp
  simp only [mVar, List.getElem?_cons_succ, List.getElem?_cons_zero]
  rw [q]
  simp only []
  rw [at']
def okS (s : Str) : Bool := s.cps.toList.all (fun c => decide (c < 128))
def okL (s : Str) : Bool := decide (1 ≤ s.cps.size) && decide (s.cps.size ≤ 5) && okS s
theorem alpha_all : ∀ f < 26, ∀ k ∈ [1, 2, 3, 5], (match slD (.str (Str.ofString "abcdefghijklmnopqrstuvwxyz" ++ Str.ofString "abcdefghijklmnopqrstuvwxyz")) (some ((f : Nat) : Int)) (some ((f : Nat) + (k : Int))) with
    | some (.str s) => okL s
    | _ => false) = true := by decide +kernel
end Mi

/-! P4: mirrors run step by step; letters and pictures drawn. -/
namespace Mi
open PySem PySem.Spec PyProof.Rows L2

section
variable {ma mb mr' : M} {cs c1 c2 c3 : List Cell} {x y z d : D} {f : D → D → Option D} {c : Cell}
theorem v_op (ha : ma cs = some (.fz x, c1)) (hb : mb c1 = some (.fz y, c2)) (hf : f x y = some z) : mOp f ma mb cs = some (.fz z, c2) := by
  unfold mOp
  rw [ha]
  simp only []
  rw [hb]
  simp only []
  rw [hf]
theorem v_nil : mNil cs = some ([], cs) := rfl
theorem v_cons {mr : MA} {xs : List D} (ha : ma cs = some (.fz x, c1)) (hr : mr c1 = some (xs, c2)) : mCons ma mr cs = some (x :: xs, c2) := by
  unfold mCons
  rw [ha]
  simp only []
  rw [hr]
theorem v_call {g : List D → Option D} {mr : MA} {xs : List D} (ha : mr cs = some (xs, c1)) (hf : g xs = some z) : mCall g mr cs = some (.fz z, c1) := by
  unfold mCall
  rw [ha]
  simp only []
  rw [hf]
theorem v_callP {g : List D → Option Cell} {mr : MA} {xs : List D} (ha : mr cs = some (xs, c1)) (hf : g xs = some c) : mCallP g mr cs = some (c, c1) := by
  unfold mCallP
  rw [ha]
  simp only []
  rw [hf]
theorem v_frzO {s : Sh} (h : ma cs = some (.ow s d, c1)) : mFrz ma cs = some (.fz d, c1) := by
  unfold mFrz
  rw [h]
theorem v_frzF (h : ma cs = some (.fz d, c1)) : mFrz ma cs = some (.fz d, c1) := by
  unfold mFrz
  rw [h]
theorem v_lst {mr : MA} {xs : List D} (ha : mr cs = some (xs, c1)) (hl : xs.length ≤ LIM) : mLst mr cs = some (.fz (.list xs), c1) := by
  unfold mLst
  rw [ha]
  simp only []
  rw [if_pos hl]
theorem v_tup {mr : MA} {xs : List D} (ha : mr cs = some (xs, c1)) (hl : xs.length ≤ LIM) : mTup mr cs = some (.fz (.tuple xs), c1) := by
  unfold mTup
  rw [ha]
  simp only []
  rw [if_pos hl]
theorem v_osome {i : Int} (h : ma cs = some (.fz (.int i), c1)) : mOSome ma cs = some (some i, c1) := by
  unfold mOSome
  rw [h]
theorem v_sl {ml mh : MO} {lo hi : Option Int} (ha : ma cs = some (.fz x, c1)) (hl : ml c1 = some (lo, c2)) (hh : mh c2 = some (hi, c3)) (hf : slD x lo hi = some z) : mSl ma ml mh cs = some (.fz z, c3) := by
  unfold mSl
  rw [ha]
  simp only []
  rw [hl]
  simp only []
  rw [hh]
  simp only []
  rw [hf]
theorem v_meth {g : D → List D → Option D} {mr : MA} {xs : List D} (ha : ma cs = some (.fz x, c1)) (hr : mr c1 = some (xs, c2)) (hf : g x xs = some z) : mMeth g ma mr cs = some (.fz z, c2) := by
  unfold mMeth
  rw [ha]
  simp only []
  rw [hr]
  simp only []
  rw [hf]
theorem v_vol {cs' : List Cell} (h : ma (frz cs) = some (.fz d, cs')) (hi : imm d = true) : mVol ma cs = some (.fz d, cs) := by
  unfold mVol
  rw [h]
  simp only []
  rw [if_pos hi]
theorem t_vol' {mt : MT} {b : Bool} {cs' : List Cell} (h : mt (frz cs) = some (b, cs')) : mVolT mt cs = some (b, cs) := by
  unfold mVolT
  rw [h]
theorem t_tst {b : Bool} (h : ma cs = some (.fz (.bool b), c1)) : mTest ma cs = some (b, c1) := by
  unfold mTest
  rw [h]
theorem s_set {i : Nat} (h : ma cs = some (c, c1)) (hi : i < c1.length) : mSet i ma cs = some (.nx (c1.set i c)) := by
  unfold mSet
  rw [h]
  simp only []
  rw [if_pos hi]
theorem s_ret (h : ma cs = some (c, c1)) : mRet ma cs = some (.rt c c1) := by
  unfold mRet
  rw [h]
theorem s_ifT {mt : MT} {a b : MB} {r : Option Fl} (h : mt cs = some (true, c1)) (g : a c1 = r) : mIfS mt a b cs = r := by
  unfold mIfS
  rw [h]
  exact g
theorem s_ifF {mt : MT} {a b : MB} {r : Option Fl} (h : mt cs = some (false, c1)) (g : b c1 = r) : mIfS mt a b cs = r := by
  unfold mIfS
  rw [h]
  exact g
theorem v_ifT {mt : MT} {a b : M} {r : Option (Cell × List Cell)} (h : mt cs = some (true, c1)) (g : a c1 = r) : mIf mt a b cs = r := by
  unfold mIf
  rw [h]
  exact g
theorem v_ifF {mt : MT} {a b : M} {r : Option (Cell × List Cell)} (h : mt cs = some (false, c1)) (g : b c1 = r) : mIf mt a b cs = r := by
  unfold mIf
  rw [h]
  exact g
theorem s_for {mi : MI} {mg : MG} {b : MB} {ds : List D} {r : Option Fl} (h : mi cs = some (ds, c1)) (g : forGo mg b ds c1 = r) : mFor mi mg b cs = r := by
  unfold mFor
  rw [h]
  exact g
theorem i_rg1 {ma : MA} {n : Int} (h : ma cs = some ([.int n], c1)) (h0 : -(2 ^ 62) ≤ n) (h1 : n < 2 ^ 62) : iRg1M ma cs = some (rangeL 0 n.toNat, c1) := by
  unfold iRg1M
  rw [h]
  simp only []
  rw [if_pos ⟨h0, h1⟩]
theorem ac_one {r : MAC} {l : List Cell} (h : ma cs = some (c, c1)) (hr : r c1 = some (l, c2)) : acCons ma r cs = some (c :: l, c2) := by
  unfold acCons
  rw [h]
  simp only []
  rw [hr]
theorem s_par {is : List Nat} {r : MAC} {l : List Cell} (h : r cs = some (l, c1)) (h1 : is.length = l.length ∧ is.all (· < c1.length) = true) : mPar is r cs = some (.nx (storeC is l c1)) := by
  unfold mPar
  rw [h]
  simp only []
  rw [if_pos h1]
theorem s_append {i : Nat} {s s' : Sh} {d0 : D} {ds : List D} (h0 : cs[i]? = some (.ow (.l s) d0)) (h : ma cs = some (c, c1)) (h1 : c1[i]? = some (.ow (.l s') (.list ds))) (h2 : cellAs s' c = some d) (hl : ds.length < LIM) : mAppend i ma cs = some (.nx (c1.set i (.ow (.l s') (.list (ds ++ [d]))))) := by
  unfold mAppend
  rw [h0]
  simp only []
  rw [h]
  simp only []
  rw [h1]
  simp only []
  rw [h2]
  simp only []
  rw [if_pos hl]
theorem s_store {i : Nat} {mk mv : M} {cv : Cell} {s s' : Sh} {d0 d' kd : D} (h : mv cs = some (cv, c1)) (h0 : c1[i]? = some (.ow s d0)) (hk : mk c1 = some (.fz kd, c2)) (h1 : c2[i]? = some (.ow s' d)) (h2 : storeAs s' d kd cv = some d') : mStore i mk mv cs = some (.nx (c2.set i (.ow s' d'))) := by
  unfold mStore
  rw [h]
  simp only []
  rw [h0]
  simp only []
  rw [hk]
  simp only []
  rw [h1]
  simp only []
  rw [h2]
end
theorem r_callQ {g : Cell → List D → Option (Cell × Cell)} {ma : MA} {ns : List Int} {i n : Int} {rest rest' : List Cell} {s' : Sh} {d' : D} {ds : List D} {c pc : Cell} (h1 : ma (penC ns i n :: rest) = some (ds, .ow s' d' :: rest')) (h3 : g (.ow s' d') ds = some (c, pc)) :
    mCallQ g 0 ma (penC ns i n :: rest) = some (c, pc :: rest') := callQ_run (c1 := .ow s' d' :: rest') rfl h1 rfl h3
theorem Pen.pen {b : Int} {c : Cell} (h : Pen b c) : ∃ ns i n, c = penC ns i n := let ⟨ns, i, n, e, _⟩ := h; ⟨ns, i, n, e⟩
theorem alphabet_run {b : Int} {c : Cell} (hc : Pen b c) (hb : b < 900000) : ∃ s c', f_l_alphabet c [] = some (.fz (.str s), c') ∧ okL s = true ∧ Pen (b + 2) c' := by
  obtain ⟨r, c1, e1, r0, r1, p1⟩ := take_run hc (by omega) (a := 26) (by omega) (by omega)
  obtain ⟨d, c2, e2, hd, p2⟩ := one_of_run p1 (by omega) (ds := [.int 1, .int 2, .int 3, .int 3, .int 5]) (by simp) (by simp)
  obtain ⟨ns, i, n, rfl⟩ := hc.pen
  obtain ⟨ns1, i1, n1, rfl⟩ := p1.pen
  obtain ⟨k, hk, rfl⟩ : ∃ k : Int, k ∈ [1, 2, 3, 5] ∧ d = .int k := by
    simp at hd
    rcases hd with rfl | rfl | rfl | rfl <;> exact ⟨_, by simp, rfl⟩
  have al := alpha_all r.toNat (by omega) k hk
  rw [Int.toNat_of_nonneg r0] at al
  split at al
  · next s hs =>
    refine ⟨s, c2, fnQ_run (cs' := [.fz (.str (Str.ofString "abcdefghijklmnopqrstuvwxyz")), .fz (.int r)]) ?_, al, p2.mono (by omega)⟩
    unfold m_l_alphabet
    refine r_seq (c1 := [penC ns1 i1 n1, .fz (.str (Str.ofString "abcdefghijklmnopqrstuvwxyz")), .fz (.int r)]) (s_par (is := [1, 2]) (l := [.fz (.str (Str.ofString "abcdefghijklmnopqrstuvwxyz")), .fz (.int r)]) (c1 := [penC ns1 i1 n1, .un, .un]) (ac_one rfl (ac_one (r_callQ (v_cons rfl v_nil) e1) rfl)) ⟨rfl, rfl⟩) ?_
    refine s_ret (v_sl (v_op rfl rfl (z := .str (Str.ofString "abcdefghijklmnopqrstuvwxyz" ++ Str.ofString "abcdefghijklmnopqrstuvwxyz")) rfl) (v_osome rfl) (v_osome (v_op rfl (r_callQ (v_cons (v_lst (v_cons rfl (v_cons rfl (v_cons rfl (v_cons rfl (v_cons rfl v_nil))))) (by decide)) v_nil) e2) rfl)) hs)
  · cases al
end Mi

/-! P5: texts of the drawing. -/
namespace Mi
open PySem PySem.Spec PyProof.Rows L2

theorem okS_iff {s : Str} : okS s = true ↔ ∀ c ∈ s.cps.toList, c < 128 := by
  unfold okS
  rw [List.all_eq_true]
  constructor
  · intro h c hc
    exact of_decide_eq_true (h c hc)
  · intro h c hc
    exact decide_eq_true (h c hc)
theorem okS_append {a b : Str} (ha : okS a = true) (hb : okS b = true) : okS (a ++ b) = true := by
  rw [okS_iff] at *
  intro c hc
  have e : (a ++ b).cps.toList = a.cps.toList ++ b.cps.toList := by
    show (a.cps ++ b.cps).toList = _
    simp
  rw [e] at hc
  rcases List.mem_append.mp hc with h | h
  · exact ha c h
  · exact hb c h
theorem len_append (a b : Str) : (a ++ b).length = a.length + b.length := by
  show (a.cps ++ b.cps).size = _
  rw [Array.size_append]
  rfl
theorem join_small : ∀ ys : List Str, (∀ y ∈ ys, okS y = true) → okS (Str.join (Str.ofString "") ys) = true ∧ (Str.join (Str.ofString "") ys).length = (ys.map (·.length)).sum
  | [], _ => ⟨rfl, rfl⟩
  | [x], h => ⟨h x (by simp), by simp [Str.join]⟩
  | x :: y :: r, h => by
    obtain ⟨h1, h2⟩ := join_small (y :: r) fun z hz => h z (List.mem_cons_of_mem _ hz)
    have e : Str.join (Str.ofString "") (x :: y :: r) = x ++ Str.ofString "" ++ Str.join (Str.ofString "") (y :: r) := rfl
    rw [e]
    refine ⟨okS_append (okS_append (h x (by simp)) rfl) h1, ?_⟩
    rw [len_append, len_append, h2, List.map_cons, List.sum_cons]
    rfl
theorem okS_strOk {s : Str} (h : okS s = true) : PyData.strOk s = true := by
  rw [okS_iff] at h
  unfold PyData.strOk
  rw [Array.all_eq_true']
  intro c hc
  have := h c (by simpa using hc)
  simp
  omega
theorem okS_strip {x y : Str} (h : okS x = true) : okS (Txt.stripChars x y) = true := by
  rw [okS_iff] at *
  intro c hc
  refine h c ?_
  unfold Txt.stripChars at hc
  rw [stripBy_eq] at hc
  unfold Builtin.Str.strSub at hc
  simp only [Array.toList_extract] at hc
  exact List.mem_of_mem_drop (List.mem_of_mem_take hc)
theorem okS_cut {x : Str} {lo hi : Option Int} (h : okS x = true) : okS (cutS x lo hi) = true := by
  rw [okS_iff] at *
  intro c hc
  refine h c ?_
  unfold cutS at hc
  simp only at hc
  exact List.mem_of_mem_drop (List.mem_of_mem_take hc)
theorem cutS_len (x : Str) (lo hi : Option Int) : (cutS x lo hi).length ≤ x.length := by
  show (List.toArray _).size ≤ _
  rw [List.size_toArray, List.length_take, List.length_drop]
  have : x.cps.toList.length = x.length := Array.length_toList
  omega
theorem cut1_len (x : Str) : (cutS x (some 1) none).length ≤ x.length - 1 := by
  show (List.toArray _).size ≤ _
  rw [List.size_toArray, List.length_take, List.length_drop]
  have e : x.cps.toList.length = x.length := Array.length_toList
  have : HT.sIx x.length 0 (some 1) = min 1 x.length := by
    unfold HT.sIx
    simp
  omega
/-- a text of at most n signs -/
def Ln (n : Nat) (d : D) : Prop := ∃ s : Str, d = .str s ∧ s.length ≤ n ∧ okS s = true
theorem strsOf_ln {n : Nat} : ∀ ds : List D, (∀ d ∈ ds, Ln n d) → ∃ ys, strsOf ds = some ys ∧ (∀ y ∈ ys, okS y = true) ∧ (ys.map (·.length)).sum ≤ ds.length * n
  | [], _ => ⟨[], rfl, (fun _ h => by cases h), Nat.zero_le _⟩
  | d :: ds, h => by
    obtain ⟨s, rfl, h1, h2⟩ := h d (by simp)
    obtain ⟨ys, e, h3, h4⟩ := strsOf_ln ds fun z hz => h z (List.mem_cons_of_mem _ hz)
    refine ⟨s :: ys, by simp [strsOf, e], fun y hy => ?_, ?_⟩
    · rcases List.mem_cons.mp hy with rfl | hy
      · exact h2
      · exact h3 y hy
    · rw [List.map_cons, List.sum_cons, List.length_cons, Nat.add_mul]
      omega
theorem joinD_ln {n m : Nat} {ds : List D} (h : ∀ d ∈ ds, Ln n d) (hm : ds.length * n ≤ m) (hm2 : m ≤ 16777216) : ∃ t, joinD (.str (Str.ofString "")) [.list ds] = some (.str t) ∧ t.length ≤ m ∧ okS t = true := by
  obtain ⟨ys, e, h1, h2⟩ := strsOf_ln ds h
  obtain ⟨h3, h4⟩ := join_small ys h1
  refine ⟨Txt.join (Str.ofString "") ys, ?_, ?_, ?_⟩
  · show joinL _ ds = _
    unfold joinL
    rw [e]
    have : (Str.ofString "").length = 0 := rfl
    simp only [this, Nat.mul_zero, Nat.add_zero]
    rw [if_pos (by omega)]
  · unfold Txt.join
    rw [StrLaws.glued_eq_join, h4]
    omega
  · unfold Txt.join
    rw [StrLaws.glued_eq_join]
    exact h3
theorem strL_ln {x : Str} (h : okS x = true) : ∀ d ∈ strL x, Ln 1 d := fun d hd => by
  unfold strL at hd
  obtain ⟨c, hc, rfl⟩ := List.mem_map.mp hd
  refine ⟨_, rfl, Nat.le_refl _, ?_⟩
  rw [okS_iff] at *
  intro e he
  simp at he
  rw [he]
  exact h c hc
theorem strL_len (x : Str) : (strL x).length = x.length := by
  unfold strL
  rw [List.length_map]
  exact Array.length_toList
theorem strAt_ln {x : Str} (h : okS x = true) (hx : 1 ≤ x.length) (hl : x.length ≤ LIM) : ∃ s, ixD (.str x) (.int 0) = some (.str s) ∧ s.length ≤ 1 ∧ okS s = true := by
  have hp : x.cps.toList.length = x.length := Array.length_toList
  obtain ⟨c, hc⟩ : ∃ c, x.cps.toList[0]? = some c := ⟨_, List.getElem?_eq_getElem (by omega)⟩
  have hm : c ∈ x.cps.toList := List.mem_of_getElem? hc
  refine ⟨⟨#[c]⟩, ?_, Nat.le_refl _, ?_⟩
  · show (if x.length ≤ LIM then strAt x 0 else none) = _
    rw [if_pos hl]
    unfold strAt atI ixN
    rw [hp, if_pos (by omega), if_pos (by omega)]
    show Option.map _ (x.cps.toList[0]?) = _
    rw [hc]
    rfl
  · rw [okS_iff] at *
    intro e he
    simp at he
    rw [he]
    exact h c hm
end Mi

/-! P6: a picture drawn. -/
namespace Mi
open PySem PySem.Spec PyProof.Rows L2

theorem rangeL_at {lo : Int} {n i : Nat} {d : D} (h : (rangeL lo n)[i]? = some d) : d = .int (lo + i) ∧ i < n := by
  unfold rangeL at h
  rw [List.getElem?_map, Option.map_eq_some_iff] at h
  obtain ⟨j, hj, rfl⟩ := h
  have hi : i < n := by
    have := (List.getElem?_eq_some_iff.mp hj).1
    simpa using this
  rw [List.getElem?_range hi] at hj
  cases hj
  exact ⟨rfl, hi⟩
theorem rangeL_len (lo : Int) (n : Nat) : (rangeL lo n).length = n := by
  unfold rangeL
  simp
theorem listD3_str {s : Str} (h : s.length ≤ LIM) : listD3 [.str s] = some (.list (strL s)) := by
  show (if s.length ≤ LIM then _ else _) = _
  rw [if_pos h]
theorem lcO_run {vs : List Nat} {mi : MI} {mg : MG} {mt : MT} {me : M} {cs c1 c2 : List Cell} {ds ys : List D} (h : mi cs = some (ds, c1)) (hl : ds.length ≤ LIM) (g : lcGo vs mg mt me ds c1 = some (ys, c2)) : mFrzP (mLcO vs mi mg mt me) cs = some (.fz (.list ys), restC c1 (wipeC c2 vs) vs) := by
  unfold mFrzP mLcO
  rw [h]
  simp only []
  rw [if_pos hl, g]
def elemM : M := (mIf (mTest (mOp eqD (mCallQ f_l_take 0 (mCons (mVar 5) mNil)) (mC (.int 0)))) (mC (.str (Str.ofString "."))) (mCallQ f_l_one_of 0 (mCons (mCall listD3 (mCons (mVar 3) mNil)) mNil)))
theorem elem_run {b : Int} {pn : Cell} {rest : List Cell} {x1 x2 x4 : Cell} {s : Str} {wild : Int} (hp : Pen b pn) (hb : b < 900000) (hs : okL s = true) (w0 : 0 < wild) (w1 : wild < 1000) :
    ∃ d pn', elemM (pn :: x1 :: x2 :: .fz (.str s) :: x4 :: .fz (.int wild) :: rest) = some (.fz d, pn' :: x1 :: x2 :: .fz (.str s) :: x4 :: .fz (.int wild) :: rest) ∧ Ln 1 d ∧ Pen (b + 2) pn' := by
  have hs' := hs
  unfold okL at hs'
  simp only [Bool.and_eq_true, decide_eq_true_eq] at hs'
  obtain ⟨⟨s1, s2⟩, s3⟩ := hs'
  obtain ⟨r, c1, e1, r0, r1, p1⟩ := take_run hp (by omega) w0 (by omega)
  obtain ⟨ns, i, n, rfl⟩ := hp.pen
  obtain ⟨ns1, i1, n1, rfl⟩ := p1.pen
  have tk : mOp eqD (mCallQ f_l_take 0 (mCons (mVar 5) mNil)) (mC (.int 0)) (penC ns i n :: x1 :: x2 :: .fz (.str s) :: x4 :: .fz (.int wild) :: rest) = some (.fz (.bool (decide (r = 0))), penC ns1 i1 n1 :: x1 :: x2 :: .fz (.str s) :: x4 :: .fz (.int wild) :: rest) := by
    refine v_op (r_callQ (v_cons rfl v_nil) e1) rfl ?_
    show some (PyData.bool (PyData.eqv (.int r) (.int 0))) = _
    simp [PyData.eqv]
    rfl
  by_cases hr : r = 0
  · refine ⟨.str (Str.ofString "."), penC ns1 i1 n1, v_ifT (t_tst (by rw [tk, decide_eq_true hr])) rfl, ⟨_, rfl, Nat.le_refl _, by decide +kernel⟩, p1.mono (by omega)⟩
  · have lx : (strL s).length = s.length := strL_len s
    have sl : s.length = s.cps.size := rfl
    obtain ⟨d, c2, e2, hd, p2⟩ := one_of_run p1 (by omega) (ds := strL s) (by omega) (by omega)
    refine ⟨d, c2, v_ifF (t_tst (by rw [tk, decide_eq_false hr])) (r_callQ (v_cons (v_call (v_cons rfl v_nil) (z := .list (strL s)) (listD3_str (by unfold LIM; omega))) v_nil) e2), strL_ln s3 d hd, p2.mono (by omega)⟩
theorem line_run {b : Int} {pn : Cell} {x1 x4 x6 x7 : Cell} {s : Str} {wild : Int} {w : Nat} (hp : Pen b pn) (hb : b < 800000) (hs : okL s = true) (w0 : 0 < wild) (w1 : wild < 1000) (hw : w ≤ 8) :
    ∃ ds pn', mFrzP (mLcO [8] (iRg1M (mCons (mVar 2) mNil)) (mgName 8) mYes elemM) [pn, x1, .fz (.int w), .fz (.str s), x4, .fz (.int wild), x6, x7, .un] = some (.fz (.list ds), [pn', x1, .fz (.int w), .fz (.str s), x4, .fz (.int wild), x6, x7, .un]) ∧ ds.length = w ∧ (∀ d ∈ ds, Ln 1 d) ∧ Pen (b + 16) pn' := by
  obtain ⟨ys, cs', e, p', y, ec, ep, el, ey⟩ := lcGo_ind (vs := [8]) (mg := mgName 8) (me := elemM)
    (fun k acc cs => ∃ pn' y, cs = [pn', x1, .fz (.int w), .fz (.str s), x4, .fz (.int wild), x6, x7, y] ∧ Pen (b + 2 * k) pn' ∧ acc.length = k ∧ ∀ d ∈ acc, Ln 1 d)
    (rangeL 0 w) [pn, x1, .fz (.int w), .fz (.str s), x4, .fz (.int wild), x6, x7, .un] 0 [] ⟨pn, .un, rfl, by simpa using hp, rfl, fun _ h => by cases h⟩
    (fun i d acc cs hd hi => by
      obtain ⟨pn1, y, rfl, hp1, hl, ha⟩ := hi
      obtain ⟨rfl, hin⟩ := rangeL_at hd
      obtain ⟨d', pn2, e2, h2, p2⟩ := elem_run (rest := [x6, x7, .fz (.int (0 + i))]) (x1 := x1) (x2 := .fz (.int w)) (x4 := x4) hp1 (by omega) hs w0 w1
      refine ⟨_, d', _, rfl, e2, pn2, _, rfl, ?_, by simp [hl], fun z hz => ?_⟩
      · exact p2.mono (by omega)
      · rcases List.mem_append.mp hz with hz | hz
        · exact ha z hz
        · rw [List.mem_singleton.mp hz]
          exact h2)
  rw [rangeL_len] at ep el
  refine ⟨ys, p', ?_, by simpa using el, by simpa using ey, ep.mono (by omega)⟩
  rw [ec] at e
  exact lcO_run (c1 := [pn, x1, .fz (.int w), .fz (.str s), x4, .fz (.int wild), x6, x7, .un]) (i_rg1 (n := (w : Int)) (v_cons rfl v_nil) (by omega) (by omega)) (by rw [rangeL_len]; unfold LIM; omega) e
end Mi

/-! P7: a picture drawn, whole. -/
namespace Mi
open PySem PySem.Spec PyProof.Rows L2

theorem sh_empty : SeqAt.shaped (.str (Str.ofString "")) = true := by decide +kernel
theorem ix_head (a : D) (l : List D) : ixD (.list (a :: l)) (.int 0) = some a := by
  show atI (a :: l) 0 = _
  unfold atI ixN
  rw [if_pos (by omega), if_pos (by simp)]
  rfl
def rowB : MB := (mSeq (mSet 7 (mFrzP (mLcO [8] (iRg1M (mCons (mVar 2) mNil)) (mgName 8) mYes elemM)))
    (mAppend 6 (mMeth joinD (mC (.str (Str.ofString ""))) (mCons (mVar 7) mNil))))
theorem row_run {b : Int} {pn : Cell} {x1 x4 x7 : Cell} {s : Str} {wild : Int} {w : Nat} {fl : List D} (hp : Pen b pn) (hb : b < 800000) (hs : okL s = true) (w0 : 0 < wild) (w1 : wild < 1000) (hw : w ≤ 8) (hf : fl.length ≤ 100) :
    ∃ d x7' pn', rowB [pn, x1, .fz (.int w), .fz (.str s), x4, .fz (.int wild), .ow (.l .fz) (.list fl), x7, .un] = some (.nx [pn', x1, .fz (.int w), .fz (.str s), x4, .fz (.int wild), .ow (.l .fz) (.list (fl ++ [d])), .fz x7', .un]) ∧ Ln w d ∧ Pen (b + 16) pn' := by
  obtain ⟨ds, pn', e, h1, h2, h3⟩ := line_run (x1 := x1) (x4 := x4) (x6 := .ow (.l .fz) (.list fl)) (x7 := x7) hp hb hs w0 w1 hw
  obtain ⟨t, e2, h4, h5⟩ := joinD_ln (m := w) h2 (by omega) (by omega)
  refine ⟨.str t, .list ds, pn', ?_, ⟨t, rfl, h4, h5⟩, h3⟩
  refine r_seq (s_set e (by simp)) ?_
  exact s_append (cs := [pn', x1, .fz (.int w), .fz (.str s), x4, .fz (.int wild), .ow (.l .fz) (.list fl), .fz (.list ds), .un]) (ds := fl) (c := .fz (.str t)) (d := .str t) (c1 := [pn', x1, .fz (.int w), .fz (.str s), x4, .fz (.int wild), .ow (.l .fz) (.list fl), .fz (.list ds), .un]) rfl (v_meth rfl (v_cons rfl v_nil) e2) rfl rfl (by unfold LIM; omega)
theorem picture_run {b : Int} {pn : Cell} {s : Str} {h w : Nat} (hp : Pen b pn) (hb : b < 700000) (hs : okL s = true) (h0 : 1 ≤ h) (h8 : h ≤ 8) (w0 : 1 ≤ w) (hw : w ≤ 8) :
    ∃ ds pn', f_l_draw_picture pn [.int h, .int w, .str s] = some (.fz (.tuple ds), pn') ∧ ds.length = h ∧ (∀ d ∈ ds, Ln w d) ∧ Pen (b + 130) pn' := by
  obtain ⟨d, c1, e1, hd, p1⟩ := one_of_run hp (by omega) (ds := [.int 2, .int 5, .int 99]) (by simp) (by simp)
  obtain ⟨wild, rfl, k0, k1⟩ : ∃ wild : Int, d = .int wild ∧ 0 < wild ∧ wild < 1000 := by
    simp at hd
    rcases hd with rfl | rfl | rfl <;> exact ⟨_, rfl, by omega, by omega⟩
  obtain ⟨ns, i, n, rfl⟩ := hp.pen
  obtain ⟨cs', e2, pn2, x4, x7, fl, rfl, hp2, hl, hf⟩ := forGo_ind (mg := mgName 4) (b := rowB)
    (fun k cs => ∃ pn' x4 x7 fl, cs = [pn', .fz (.int h), .fz (.int w), .fz (.str s), x4, .fz (.int wild), .ow (.l .fz) (.list fl), x7, .un] ∧ Pen (b + 1 + 16 * k) pn' ∧ fl.length = k ∧ ∀ d ∈ fl, Ln w d)
    (rangeL 0 h) [c1, .fz (.int h), .fz (.int w), .fz (.str s), .un, .fz (.int wild), .ow (.l .fz) (.list []), .un, .un] 0 ⟨c1, .un, .un, [], rfl, by simpa using p1, rfl, fun _ h => by cases h⟩
    (fun i d cs hd hi => by
      obtain ⟨pn', x4, x7, fl, rfl, hp1, hl, hf⟩ := hi
      obtain ⟨rfl, hin⟩ := rangeL_at hd
      obtain ⟨y, x7', pn'', e, hy, p⟩ := row_run (x1 := .fz (.int h)) (x4 := .fz (.int (0 + i))) (x7 := x7) (fl := fl) hp1 (by omega) hs k0 k1 hw (by omega)
      refine ⟨_, _, rfl, e, pn'', _, _, _, rfl, p.mono (by omega), by simp [hl], fun z hz => ?_⟩
      rcases List.mem_append.mp hz with hz | hz
      · exact hf z hz
      · rw [List.mem_singleton.mp hz]
        exact hy)
  rw [rangeL_len] at hp2 hl
  have hl : fl.length = h := by omega
  obtain ⟨t, e3, _, h5⟩ := joinD_ln (m := 64) hf (by rw [hl]; exact Nat.mul_le_mul h8 hw) (by omega)
  obtain ⟨d0, fr, rfl⟩ : ∃ d0 fr, fl = d0 :: fr := by
    cases fl with
    | nil => simp at hl; omega
    | cons a l => exact ⟨_, _, rfl⟩
  obtain ⟨s0, rfl, z1, z2⟩ := hf d0 (by simp)
  have hs' := hs
  unfold okL at hs'
  simp only [Bool.and_eq_true, decide_eq_true_eq] at hs'
  obtain ⟨⟨s1, s2⟩, s3⟩ := hs'
  have sl : s.length = s.cps.size := rfl
  obtain ⟨a, ea, a1, a2⟩ := strAt_ln s3 (by omega) (by unfold LIM; omega)
  have fin : ∃ d1, Ln w d1 ∧ (mIfS (mVolT (mTest (mOp eqD (mMeth stripD (mMeth joinD (mC (.str (Str.ofString ""))) (mCons (mVar 6) mNil)) (mCons (mC (.str (Str.ofString "."))) mNil)) (mC (.str (Str.ofString "")))))) (mStore 6 (mC (.int 0)) (mVol (mOp addD (mOp ixD (mVar 3) (mC (.int 0))) (mSl (mOp ixD (mVar 6) (mC (.int 0))) (mOSome (mC (.int 1))) mONo)))) mNx)
      [pn2, .fz (.int h), .fz (.int w), .fz (.str s), x4, .fz (.int wild), .ow (.l .fz) (.list (.str s0 :: fr)), x7, .un] = some (.nx [pn2, .fz (.int h), .fz (.int w), .fz (.str s), x4, .fz (.int wild), .ow (.l .fz) (.list (d1 :: fr)), x7, .un]) := by
    obtain ⟨ns2, i2, n2, rfl⟩ := hp2.pen
    obtain ⟨x7f, hx7⟩ : ∃ l, frz (penC ns2 i2 n2 :: .fz (.int h) :: .fz (.int w) :: .fz (.str s) :: x4 :: .fz (.int wild) :: .ow (.l .fz) (.list (.str s0 :: fr)) :: x7 :: [.un]) = .fz (.list [.list (ns2.map .int), .int i2, .int n2]) :: .fz (.int h) :: .fz (.int w) :: .fz (.str s) :: l ∧ ∃ y4 r, l = y4 :: .fz (.int wild) :: .fz (.list (.str s0 :: fr)) :: r := by
      cases x4 <;> exact ⟨_, rfl, _, _, rfl⟩
    obtain ⟨hx, y4, r, rfl⟩ := hx7
    have st : stripD (.str t) [.str (Str.ofString ".")] = some (.str (Txt.stripChars t (Str.ofString "."))) := by
      show (if t.length ≤ LIM then _ else _) = _
      rw [if_pos (by unfold LIM; omega)]
    have q : eqD (.str (Txt.stripChars t (Str.ofString "."))) (.str (Str.ofString "")) = some (.bool (PyData.eqv (.str (Txt.stripChars t (Str.ofString "."))) (.str (Str.ofString "")))) := by
      have : SeqAt.shaped (.str (Txt.stripChars t (Str.ofString "."))) = true := by
        show (PyData.strOk _ && decide (0 ≤ 64)) = true
        rw [okS_strOk (okS_strip h5)]
        rfl
      unfold eqD
      rw [this, sh_empty]
      rfl
    have tt : mVolT (mTest (mOp eqD (mMeth stripD (mMeth joinD (mC (.str (Str.ofString ""))) (mCons (mVar 6) mNil)) (mCons (mC (.str (Str.ofString "."))) mNil)) (mC (.str (Str.ofString ""))))) (penC ns2 i2 n2 :: .fz (.int h) :: .fz (.int w) :: .fz (.str s) :: x4 :: .fz (.int wild) :: .ow (.l .fz) (.list (.str s0 :: fr)) :: x7 :: [.un]) = some (PyData.eqv (.str (Txt.stripChars t (Str.ofString "."))) (.str (Str.ofString "")), penC ns2 i2 n2 :: .fz (.int h) :: .fz (.int w) :: .fz (.str s) :: x4 :: .fz (.int wild) :: .ow (.l .fz) (.list (.str s0 :: fr)) :: x7 :: [.un]) := by
      refine t_vol' (cs' := frz (penC ns2 i2 n2 :: .fz (.int h) :: .fz (.int w) :: .fz (.str s) :: x4 :: .fz (.int wild) :: .ow (.l .fz) (.list (.str s0 :: fr)) :: x7 :: [.un])) ?_
      rw [hx]
      exact t_tst (v_op (v_meth (v_meth rfl (v_cons rfl v_nil) e3) (v_cons rfl v_nil) st) rfl q)
    cases hb : PyData.eqv (.str (Txt.stripChars t (Str.ofString "."))) (.str (Str.ofString "")) with
    | false =>
      rw [hb] at tt
      exact ⟨.str s0, ⟨_, rfl, z1, z2⟩, s_ifF tt rfl⟩
    | true =>
      rw [hb] at tt
      have la := len_append a (cutS s0 (some 1) none)
      have lc := cut1_len s0
      refine ⟨.str (a ++ cutS s0 (some 1) none), ⟨_, rfl, by omega, okS_append a2 (okS_cut z2)⟩, s_ifT tt ?_⟩
      refine s_store (c1 := penC ns2 i2 n2 :: .fz (.int h) :: .fz (.int w) :: .fz (.str s) :: x4 :: .fz (.int wild) :: .ow (.l .fz) (.list (.str s0 :: fr)) :: x7 :: [.un]) (c2 := penC ns2 i2 n2 :: .fz (.int h) :: .fz (.int w) :: .fz (.str s) :: x4 :: .fz (.int wild) :: .ow (.l .fz) (.list (.str s0 :: fr)) :: x7 :: [.un]) (s := .l .fz) (s' := .l .fz) (kd := .int 0) (d := .list (.str s0 :: fr)) (d0 := .list (.str s0 :: fr)) (cv := .fz (.str (a ++ cutS s0 (some 1) none))) (d' := .list (.str (a ++ cutS s0 (some 1) none) :: fr)) (v_vol (cs' := frz (penC ns2 i2 n2 :: .fz (.int h) :: .fz (.int w) :: .fz (.str s) :: x4 :: .fz (.int wild) :: .ow (.l .fz) (.list (.str s0 :: fr)) :: x7 :: [.un])) (d := .str (a ++ cutS s0 (some 1) none)) ?_ rfl) rfl rfl rfl ?_
      · rw [hx]
        refine v_op (v_op rfl rfl ea) (v_sl (z := .str (cutS s0 (some 1) none)) (v_op rfl rfl (z := .str s0) (ix_head _ _)) rfl rfl ?_) ?_
        · show (if s0.length ≤ LIM then _ else _) = _
          rw [if_pos (by unfold LIM; omega)]
        · show (if a.length + (cutS s0 (some 1) none).length ≤ LIM then _ else _) = _
          rw [if_pos (by unfold LIM; omega)]
      · have : ixN (PyData.str s0 :: fr).length 0 = some 0 := by
          unfold ixN
          rw [if_pos (by omega), if_pos (by simp)]
          rfl
        show (match ixN (PyData.str s0 :: fr).length 0, some (PyData.str (a ++ cutS s0 (some 1) none)) with
          | some j, some d => some (PyData.list ((PyData.str s0 :: fr).set j d))
          | _, _ => none) = _
        rw [this]
        rfl
  obtain ⟨d1, g1, g2⟩ := fin
  refine ⟨d1 :: fr, pn2, fnQ_run (cs' := [.fz (.int h), .fz (.int w), .fz (.str s), x4, .fz (.int wild), .fz (.list (d1 :: fr)), x7, .un]) ?_, by simpa using hl, fun d hd => ?_, hp2.mono (by omega)⟩
  · show m_l_draw_picture [penC ns i n, .fz (.int h), .fz (.int w), .fz (.str s), .un, .un, .un, .un, .un] = _
    refine r_seq (c1 := [c1, .fz (.int h), .fz (.int w), .fz (.str s), .un, .fz (.int wild), .ow (.l .fz) (.list []), .un, .un]) (s_par (is := [5, 6]) (l := [.fz (.int wild), .ow (.l .fz) (.list [])]) (c1 := [c1, .fz (.int h), .fz (.int w), .fz (.str s), .un, .un, .un, .un, .un]) (ac_one (r_callQ (v_cons (v_lst (v_cons rfl (v_cons rfl (v_cons rfl v_nil))) (by decide)) v_nil) e1) (ac_one rfl rfl)) ⟨rfl, rfl⟩) ?_
    refine r_seq (s_for (i_rg1 (n := (h : Int)) (v_cons rfl v_nil) (by omega) (by omega)) e2) ?_
    refine r_seq g2 ?_
    exact s_ret (v_call (v_cons rfl v_nil) rfl)
  · rcases List.mem_cons.mp hd with rfl | hd
    · exact g1
    · exact hf d (List.mem_cons_of_mem _ hd)
end Mi

/-! P8: a pile drawn. -/
namespace Mi
open PySem PySem.Spec PyProof.Rows L2

def SheetD (d : D) : Prop := ∃ (r c : Nat) (ds : List D), d = .tuple [.int r, .int c, .tuple ds] ∧ r ≤ 8 ∧ c ≤ 8 ∧ ds.length ≤ 8 ∧ ∀ d ∈ ds, Ln 8 d
def PileD (d : D) : Prop := ∃ (r c : Nat) (ds : List D), d = .tuple [.int r, .int c, .tuple ds] ∧ r ≤ 8 ∧ c ≤ 8 ∧ ds.length ≤ 10 ∧ ∀ d ∈ ds, SheetD d
theorem Ln.mono {n m : Nat} {d : D} (h : Ln n d) (le : n ≤ m) : Ln m d := by
  obtain ⟨s, e, h1, h2⟩ := h
  exact ⟨s, e, by omega, h2⟩
theorem take_nat {b : Int} {a : Nat} {c : Cell} (hc : Pen b c) (hb : b < 1000000) (h0 : 0 < a) (h1 : a < 1000) : ∃ (r : Nat) (c' : Cell), f_l_take c [.int a] = some (.fz (.int r), c') ∧ r < a ∧ Pen (b + 1) c' := by
  obtain ⟨r, c', e, r0, r1, p⟩ := take_run hc hb (a := a) (by omega) (by omega)
  obtain ⟨k, rfl⟩ := Int.eq_ofNat_of_zero_le r0
  exact ⟨k, c', e, by omega, p⟩
theorem v_succ {m : M} {cs c1 : List Cell} {r : Nat} (h : m cs = some (.fz (.int r), c1)) : mOp addD (mC (.int 1)) m cs = some (.fz (.int (r + 1 : Nat)), c1) := by
  refine v_op rfl h ?_
  show some (PyData.int (1 + (r : Int))) = _
  rw [show (1 + (r : Int)) = ((r + 1 : Nat) : Int) by omega]
def sheetB : MB := (mSeq (mPar [9, 10] (acCons (mOp addD (mC (.int 1)) (mCallQ f_l_take 0 (mCons (mVar 4) mNil))) (acCons (mOp addD (mC (.int 1)) (mCallQ f_l_take 0 (mCons (mVar 5) mNil))) acNil)))
    (mSeq (mSet 8 (mCallQ f_l_draw_picture 0 (mCons (mVar 9) (mCons (mVar 10) (mCons (mVar 6) mNil)))))
    (mAppend 7 (mTup (mCons (mCallQ f_l_take 0 (mCons (mOp addD (mOp subD (mVar 4) (mVar 9)) (mC (.int 1))) mNil)) (mCons (mCallQ f_l_take 0 (mCons (mOp addD (mOp subD (mVar 5) (mVar 10)) (mC (.int 1))) mNil)) (mCons (mVar 8) mNil)))))))
def pileC (pn x1 x2 x3 : Cell) (R C : Nat) (s : Str) (fl : List D) (x8 x9 x10 : Cell) : List Cell := [pn, x1, x2, x3, .fz (.int R), .fz (.int C), .fz (.str s), .ow (.l .fz) (.list fl), x8, x9, x10]
theorem sheet_run {b : Int} {pn x1 x2 x3 x8 x9 x10 : Cell} {R C : Nat} {s : Str} {fl : List D} (hp : Pen b pn) (hb : b < 600000) (hs : okL s = true) (R0 : 1 ≤ R) (R8 : R ≤ 8) (C0 : 1 ≤ C) (C8 : C ≤ 8) (hf : fl.length ≤ 100) :
    ∃ d y8 y9 y10 pn', sheetB (pileC pn x1 x2 x3 R C s fl x8 x9 x10) = some (.nx (pileC pn' x1 x2 x3 R C s (fl ++ [d]) y8 y9 y10)) ∧ SheetD d ∧ Pen (b + 140) pn' := by
  obtain ⟨h, c1, e1, h1, p1⟩ := take_nat hp (by omega) (a := R) (by omega) (by omega)
  obtain ⟨w, c2, e2, h2, p2⟩ := take_nat p1 (by omega) (a := C) (by omega) (by omega)
  obtain ⟨ds, c3, e3, h3, h4, p3⟩ := picture_run p2 (by omega) hs (h := h + 1) (w := w + 1) (by omega) (by omega) (by omega) (by omega)
  obtain ⟨r, c4, e4, h5, p4⟩ := take_nat p3 (by omega) (a := R - h) (by omega) (by omega)
  obtain ⟨c, c5, e5, h6, p5⟩ := take_nat p4 (by omega) (a := C - w) (by omega) (by omega)
  obtain ⟨_, _, _, rfl⟩ := hp.pen
  obtain ⟨_, _, _, rfl⟩ := p1.pen
  obtain ⟨_, _, _, rfl⟩ := p2.pen
  obtain ⟨_, _, _, rfl⟩ := p3.pen
  obtain ⟨_, _, _, rfl⟩ := p4.pen
  refine ⟨.tuple [.int r, .int c, .tuple ds], .fz (.tuple ds), .fz (.int (h + 1 : Nat)), .fz (.int (w + 1 : Nat)), c5, ?_, ⟨r, c, ds, rfl, by omega, by omega, by omega, fun d hd => (h4 d hd).mono (by omega)⟩, p5.mono (by omega)⟩
  unfold sheetB
  refine r_seq (c1 := pileC (penC _ _ _) x1 x2 x3 R C s fl x8 (.fz (.int (h + 1 : Nat))) (.fz (.int (w + 1 : Nat)))) (s_par (is := [9, 10]) (l := [.fz (.int (h + 1 : Nat)), .fz (.int (w + 1 : Nat))]) (c1 := pileC (penC _ _ _) x1 x2 x3 R C s fl x8 x9 x10) (ac_one (v_succ (r_callQ (v_cons rfl v_nil) e1)) (ac_one (v_succ (r_callQ (v_cons rfl v_nil) e2)) rfl)) ⟨rfl, rfl⟩) ?_
  refine r_seq (c1 := pileC (penC _ _ _) x1 x2 x3 R C s fl (.fz (.tuple ds)) (.fz (.int (h + 1 : Nat))) (.fz (.int (w + 1 : Nat)))) (s_set (c1 := pileC (penC _ _ _) x1 x2 x3 R C s fl x8 (.fz (.int (h + 1 : Nat))) (.fz (.int (w + 1 : Nat)))) (r_callQ (v_cons rfl (v_cons rfl (v_cons rfl v_nil))) e3) (by simp [pileC])) ?_
  have a1 : ∀ pn, mOp addD (mOp subD (mVar 4) (mVar 9)) (mC (.int 1)) (pileC pn x1 x2 x3 R C s fl (.fz (.tuple ds)) (.fz (.int (h + 1 : Nat))) (.fz (.int (w + 1 : Nat)))) = some (.fz (.int (R - h : Nat)), pileC pn x1 x2 x3 R C s fl (.fz (.tuple ds)) (.fz (.int (h + 1 : Nat))) (.fz (.int (w + 1 : Nat)))) := fun pn => by
    refine v_op (v_op rfl rfl rfl) rfl ?_
    show some (PyData.int ((R : Int) - ((h + 1 : Nat) : Int) + 1)) = _
    rw [show (R : Int) - ((h + 1 : Nat) : Int) + 1 = ((R - h : Nat) : Int) by omega]
  have a2 : ∀ pn, mOp addD (mOp subD (mVar 5) (mVar 10)) (mC (.int 1)) (pileC pn x1 x2 x3 R C s fl (.fz (.tuple ds)) (.fz (.int (h + 1 : Nat))) (.fz (.int (w + 1 : Nat)))) = some (.fz (.int (C - w : Nat)), pileC pn x1 x2 x3 R C s fl (.fz (.tuple ds)) (.fz (.int (h + 1 : Nat))) (.fz (.int (w + 1 : Nat)))) := fun pn => by
    refine v_op (v_op rfl rfl rfl) rfl ?_
    show some (PyData.int ((C : Int) - ((w + 1 : Nat) : Int) + 1)) = _
    rw [show (C : Int) - ((w + 1 : Nat) : Int) + 1 = ((C - w : Nat) : Int) by omega]
  exact s_append (ds := fl) (c := .fz (.tuple [.int r, .int c, .tuple ds])) (d := .tuple [.int r, .int c, .tuple ds]) (c1 := pileC c5 x1 x2 x3 R C s fl (.fz (.tuple ds)) (.fz (.int (h + 1 : Nat))) (.fz (.int (w + 1 : Nat)))) rfl (v_tup (v_cons (r_callQ (v_cons (a1 _) v_nil) e4) (v_cons (r_callQ (v_cons (a2 _) v_nil) e5) (v_cons rfl v_nil))) (show (3 : Nat) ≤ LIM by decide)) rfl rfl (by unfold LIM; omega)
theorem pile_run {b : Int} {pn : Cell} {L : Nat} (hp : Pen b pn) (hb : b < 500000) (L0 : 1 ≤ L) (L8 : L ≤ 8) :
    ∃ d pn', f_l_draw_pile pn [.int 10, .int L] = some (.fz d, pn') ∧ PileD d ∧ Pen (b + 1500) pn' := by
  obtain ⟨R, c1, e1, h1, p1⟩ := take_nat hp (by omega) (a := L) (by omega) (by omega)
  obtain ⟨C, c2, e2, h2, p2⟩ := take_nat p1 (by omega) (a := L) (by omega) (by omega)
  obtain ⟨s, c3, e3, hs, p3⟩ := alphabet_run p2 (by omega)
  obtain ⟨n, c4, e4, h4, p4⟩ := take_nat p3 (by omega) (a := 10) (by omega) (by omega)
  obtain ⟨cs', e5, pn5, x3, x8, x9, x10, fl, rfl, p5, hl, hf⟩ := forGo_ind (mg := mgName 3) (b := sheetB)
    (fun k cs => ∃ pn' x3 x8 x9 x10 fl, cs = pileC pn' (.fz (.int 10)) (.fz (.int L)) x3 (R + 1) (C + 1) s fl x8 x9 x10 ∧ Pen (b + 5 + 140 * k) pn' ∧ fl.length = k ∧ ∀ d ∈ fl, SheetD d)
    (rangeL 0 (n + 1)) (pileC c4 (.fz (.int 10)) (.fz (.int L)) .un (R + 1) (C + 1) s [] .un .un .un) 0 ⟨c4, .un, .un, .un, .un, [], rfl, p4.mono (by omega), rfl, fun _ h => by cases h⟩
    (fun i d cs hd hi => by
      obtain ⟨pn', x3, x8, x9, x10, fl, rfl, hp1, hl, hf⟩ := hi
      obtain ⟨rfl, hin⟩ := rangeL_at hd
      obtain ⟨y, y8, y9, y10, pn'', e, hy, p⟩ := sheet_run (x1 := .fz (.int 10)) (x2 := .fz (.int L)) (x3 := .fz (.int (0 + i))) (x8 := x8) (x9 := x9) (x10 := x10) (fl := fl) hp1 (by omega) hs (R := R + 1) (C := C + 1) (by omega) (by omega) (by omega) (by omega) (by omega)
      refine ⟨_, _, rfl, e, pn'', _, _, _, _, _, rfl, p.mono (by omega), by simp [hl], fun z hz => ?_⟩
      rcases List.mem_append.mp hz with hz | hz
      · exact hf z hz
      · rw [List.mem_singleton.mp hz]
        exact hy)
  rw [rangeL_len] at p5 hl
  obtain ⟨_, _, _, rfl⟩ := hp.pen
  obtain ⟨_, _, _, rfl⟩ := p1.pen
  obtain ⟨_, _, _, rfl⟩ := p2.pen
  obtain ⟨_, _, _, rfl⟩ := p3.pen
  refine ⟨.tuple [.int (R + 1 : Nat), .int (C + 1 : Nat), .tuple fl], pn5, fnQ_run (cs' := [.fz (.int 10), .fz (.int L), x3, .fz (.int (R + 1 : Nat)), .fz (.int (C + 1 : Nat)), .fz (.str s), .fz (.list fl), x8, x9, x10]) ?_, ⟨R + 1, C + 1, fl, rfl, by omega, by omega, by omega, hf⟩, p5.mono (by omega)⟩
  show m_l_draw_pile [penC _ _ _, .fz (.int 10), .fz (.int L), .un, .un, .un, .un, .un, .un, .un, .un] = _
  unfold m_l_draw_pile
  refine r_seq (c1 := [penC _ _ _, .fz (.int 10), .fz (.int L), .un, .fz (.int (R + 1 : Nat)), .fz (.int (C + 1 : Nat)), .un, .un, .un, .un, .un]) (s_par (is := [4, 5]) (l := [.fz (.int (R + 1 : Nat)), .fz (.int (C + 1 : Nat))]) (c1 := [penC _ _ _, .fz (.int 10), .fz (.int L), .un, .un, .un, .un, .un, .un, .un, .un]) (ac_one (v_succ (r_callQ (v_cons rfl v_nil) e1)) (ac_one (v_succ (r_callQ (v_cons rfl v_nil) e2)) rfl)) ⟨rfl, rfl⟩) ?_
  refine r_seq (c1 := pileC (penC _ _ _) (.fz (.int 10)) (.fz (.int L)) .un (R + 1) (C + 1) s [] .un .un .un) (s_par (is := [6, 7]) (l := [.fz (.str s), .ow (.l .fz) (.list [])]) (c1 := [penC _ _ _, .fz (.int 10), .fz (.int L), .un, .fz (.int (R + 1 : Nat)), .fz (.int (C + 1 : Nat)), .un, .un, .un, .un, .un]) (ac_one (r_callQ v_nil e3) (ac_one rfl rfl)) ⟨rfl, rfl⟩) ?_
  refine r_seq (s_for (i_rg1 (n := ((n + 1 : Nat) : Int)) (v_cons (v_succ (r_callQ (v_cons rfl v_nil) e4)) v_nil) (by omega) (by omega)) e5) ?_
  exact s_ret (v_tup (v_cons rfl (v_cons rfl (v_cons (v_call (v_cons rfl v_nil) rfl) v_nil))) (show (3 : Nat) ≤ LIM by decide))
end Mi

/-! P9: cells to lists, as entries of a dict. -/
namespace Mi
open PySem PySem.Spec PyProof.Rows L2

abbrev Spot := Nat × Nat
def kd (k : Spot) : D := .tuple [.int k.1, .int k.2]
def qk (k : Spot) : KK := .inr [.inl k.1, .inl k.2]
theorem kOf_kd (k : Spot) : kOf (kd k) = some (qk k) := rfl
theorem qk_inj {k l : Spot} (h : qk k = qk l) : k = l := by
  unfold qk at h
  injection h with h
  injection h with h1 h2
  injection h1 with h1
  injection h2 with h2 h3
  injection h2 with h2
  exact Prod.ext (by omega) (by omega)
theorem kOf_iff {k l : Spot} : kOf (kd k) = some (qk l) ↔ k = l := ⟨fun h => by rw [kOf_kd] at h; exact qk_inj (Option.some.inj h), fun h => by rw [h]; rfl⟩
section
variable {α : Type} (f : α → D)
def eE (t : List (Spot × α)) : List (D × D) := t.map fun e => (kd e.1, f e.2)
theorem any_no {t : List (Spot × α)} {k : Spot} (h : k ∉ t.map (·.1)) : ((eE f t).any fun e => decide (kOf e.1 = some (qk k))) = false := by
  rw [List.any_eq_false]
  intro e he
  unfold eE at he
  obtain ⟨a, ha, rfl⟩ := List.mem_map.mp he
  simp only [decide_eq_true_eq, kOf_iff]
  intro hk
  exact h (List.mem_map.mpr ⟨a, ha, hk⟩)
theorem any_yes {t : List (Spot × α)} {k : Spot} (h : k ∈ t.map (·.1)) : ((eE f t).any fun e => decide (kOf e.1 = some (qk k))) = true := by
  rw [List.any_eq_true]
  obtain ⟨a, ha, hk⟩ := List.mem_map.mp h
  refine ⟨(kd a.1, f a.2), List.mem_map.mpr ⟨a, ha, rfl⟩, ?_⟩
  simp only [decide_eq_true_eq, kOf_iff]
  exact hk
theorem map_no {t : List (Spot × α)} {k : Spot} (g : D × D → D × D) (h : k ∉ t.map (·.1)) : (eE f t).map (fun e => if kOf e.1 = some (qk k) then g e else e) = eE f t := by
  unfold eE
  rw [List.map_map]
  refine List.map_congr_left fun a ha => ?_
  show (if kOf (kd a.1) = some (qk k) then _ else _) = _
  rw [if_neg]
  rw [kOf_iff]
  intro hk
  exact h (List.mem_map.mpr ⟨a, ha, hk⟩)
theorem put_new {t : List (Spot × α)} {k : Spot} {a : α} (h : k ∉ t.map (·.1)) : putD (eE f t) (qk k) (kd k) (f a) = eE f (t ++ [(k, a)]) := by
  unfold putD
  rw [any_no f h]
  unfold eE
  simp
theorem find_no {t : List (Spot × α)} {k : Spot} (h : k ∉ t.map (·.1)) : findD (eE f t) (qk k) = none := by
  induction t with
  | nil => rfl
  | cons a t ih =>
    simp only [List.map_cons, List.mem_cons, not_or] at h
    show (if kOf (kd a.1) = some (qk k) then _ else _) = _
    rw [if_neg (by rw [kOf_iff]; exact fun e => h.1 e.symm)]
    exact ih h.2
theorem cnt_no {t : List (Spot × α)} {k : Spot} (h : k ∉ t.map (·.1)) : cntD (eE f t) (qk k) = 0 := by
  unfold cntD
  rw [List.length_eq_zero_iff, List.filter_eq_nil_iff]
  intro e he
  have := any_no f h
  rw [List.any_eq_false] at this
  exact this e he
theorem cnt_le {k : Spot} : ∀ {t : List (Spot × α)}, (t.map (·.1)).Nodup → cntD (eE f t) (qk k) ≤ 1
  | [], _ => Nat.zero_le _
  | a :: t, h => by
    rw [List.map_cons, List.nodup_cons] at h
    by_cases hk : a.1 = k
    · have : cntD (eE f (a :: t)) (qk k) = cntD (eE f t) (qk k) + 1 := by
        unfold cntD eE
        rw [List.map_cons, List.filter_cons_of_pos (by simp only [decide_eq_true_eq, kOf_iff]; exact hk)]
        rfl
      rw [this, cnt_no f (by rw [← hk]; exact h.1)]
      exact Nat.le_refl _
    · have : cntD (eE f (a :: t)) (qk k) = cntD (eE f t) (qk k) := by
        unfold cntD eE
        rw [List.map_cons, List.filter_cons_of_neg (by simp only [decide_eq_true_eq, kOf_iff]; exact hk)]
      rw [this]
      exact cnt_le h.2
end
abbrev Tb := List (Spot × List D)
def tE (t : Tb) : List (D × D) := eE .list t
def addT : Tb → Spot → D → Tb
  | [], k, x => [(k, [x])]
  | e :: r, k, x => if e.1 = k then (e.1, e.2 ++ [x]) :: r else e :: addT r k x
def lkT : Tb → Spot → List D
  | [], _ => []
  | e :: r, k => if e.1 = k then e.2 else lkT r k
theorem addT_no {k : Spot} {x : D} : ∀ {t : Tb}, k ∉ t.map (·.1) → addT t k x = t ++ [(k, [x])]
  | [], _ => rfl
  | e :: r, h => by
    simp only [List.map_cons, List.mem_cons, not_or] at h
    unfold addT
    rw [if_neg (fun z => h.1 z.symm), addT_no h.2]
    rfl
theorem addT_snoc {k : Spot} {x : D} : ∀ {t : Tb}, k ∉ t.map (·.1) → addT (t ++ [(k, [])]) k x = addT t k x
  | [], _ => by simp [addT]
  | e :: r, h => by
    have h' := h
    simp only [List.map_cons, List.mem_cons, not_or] at h
    show addT (e :: (r ++ [(k, [])])) k x = _
    unfold addT
    rw [if_neg (fun z => h.1 z.symm), if_neg (fun z => h.1 z.symm), addT_snoc h.2]
theorem lkT_no {k : Spot} : ∀ {t : Tb}, k ∉ t.map (·.1) → lkT t k = []
  | [], _ => rfl
  | e :: r, h => by
    simp only [List.map_cons, List.mem_cons, not_or] at h
    unfold lkT
    rw [if_neg (fun z => h.1 z.symm), lkT_no h.2]
theorem find_tE {k : Spot} : ∀ {t : Tb}, ((findD (tE t) (qk k)).getD (.list [])) = .list (lkT t k)
  | [] => rfl
  | e :: r => by
    show (Option.getD (if kOf (kd e.1) = some (qk k) then some (PyData.list e.2) else findD (tE r) (qk k)) _) = .list (if e.1 = k then e.2 else lkT r k)
    by_cases h : e.1 = k
    · rw [if_pos (kOf_iff.mpr h), if_pos h]
      rfl
    · rw [if_neg (fun z => h (kOf_iff.mp z)), if_neg h]
      exact find_tE
theorem putT {k : Spot} {x : D} {t : Tb} (nd : (t.map (·.1)).Nodup) : putD (tE t) (qk k) (kd k) (.list (lkT t k ++ [x])) = tE (addT t k x) := by
  by_cases hk : k ∈ t.map (·.1)
  · unfold putD
    unfold tE
    rw [any_yes _ hk, if_pos rfl]
    have go : ∀ (t : Tb) (l : List D), (t.map (·.1)).Nodup → (k ∈ t.map (·.1) → l = lkT t k ++ [x]) → (k ∈ t.map (·.1)) → (eE .list t).map (fun e => if kOf e.1 = some (qk k) then (e.1, PyData.list l) else e) = eE .list (addT t k x) := by
      intro t
      induction t with
      | nil => intro l _ _ h; cases h
      | cons e r ih =>
        intro l nd hl hk
        rw [List.map_cons, List.nodup_cons] at nd
        have hl := hl hk
        by_cases h : e.1 = k
        · unfold lkT at hl
          rw [if_pos h] at hl
          have : addT (e :: r) k x = (e.1, e.2 ++ [x]) :: r := if_pos h
          rw [this]
          show (if kOf (kd e.1) = some (qk k) then _ else _) :: (eE .list r).map _ = (kd e.1, PyData.list (e.2 ++ [x])) :: eE .list r
          rw [if_pos (kOf_iff.mpr h), map_no (f := PyData.list) (fun e => (e.1, PyData.list l)) (by rw [← h]; exact nd.1), hl]
        · unfold lkT at hl
          rw [if_neg h] at hl
          have : addT (e :: r) k x = e :: addT r k x := if_neg h
          rw [this]
          show (if kOf (kd e.1) = some (qk k) then _ else _) :: (eE .list r).map _ = (kd e.1, PyData.list e.2) :: eE .list (addT r k x)
          rw [if_neg (fun z => h (kOf_iff.mp z)), ih l nd.2 (fun _ => hl) (by
            rcases List.mem_cons.mp hk with z | z
            · exact absurd z.symm h
            · exact z)]
    exact go t _ nd (fun _ => rfl) hk
  · rw [lkT_no hk, addT_no hk]
    exact put_new (f := PyData.list) (a := [x]) hk
theorem appT {k : Spot} {x : D} : ∀ {t : Tb}, (t.map (·.1)).Nodup → k ∈ t.map (·.1) → appAt (tE t) (qk k) x = tE (addT t k x)
  | [], _, h => by cases h
  | e :: r, nd, hk => by
    rw [List.map_cons, List.nodup_cons] at nd
    by_cases h : e.1 = k
    · have : addT (e :: r) k x = (e.1, e.2 ++ [x]) :: r := if_pos h
      rw [this]
      show (if kOf (kd e.1) = some (qk k) then _ else _) :: (eE .list r).map _ = (kd e.1, PyData.list (e.2 ++ [x])) :: eE .list r
      rw [if_pos (kOf_iff.mpr h), map_no (f := PyData.list) (fun e => (e.1, appD e.2 x)) (by rw [← h]; exact nd.1)]
      rfl
    · have : addT (e :: r) k x = e :: addT r k x := if_neg h
      rw [this]
      show (if kOf (kd e.1) = some (qk k) then _ else _) :: appAt (tE r) (qk k) x = (kd e.1, PyData.list e.2) :: tE (addT r k x)
      rw [if_neg (fun z => h (kOf_iff.mp z)), appT nd.2 (by
            rcases List.mem_cons.mp hk with z | z
            · exact absurd z.symm h
            · exact z)]
theorem find_yes {k : Spot} : ∀ {t : Tb}, k ∈ t.map (·.1) → findD (tE t) (qk k) = some (.list (lkT t k))
  | [], h => by cases h
  | e :: r, hk => by
    show (if kOf (kd e.1) = some (qk k) then some (PyData.list e.2) else findD (tE r) (qk k)) = some (.list (if e.1 = k then e.2 else lkT r k))
    by_cases h : e.1 = k
    · rw [if_pos (kOf_iff.mpr h), if_pos h]
    · rw [if_neg (fun z => h (kOf_iff.mp z)), if_neg h]
      exact find_yes (by
            rcases List.mem_cons.mp hk with z | z
            · exact absurd z.symm h
            · exact z)
theorem sdT {k : Spot} {x : D} {t : Tb} (nd : (t.map (·.1)).Nodup) : appAt (sdBase (tE t) (qk k) (kd k)) (qk k) x = tE (addT t k x) ∧ cntD (sdBase (tE t) (qk k) (kd k)) (qk k) ≤ 1 := by
  by_cases hk : k ∈ t.map (·.1)
  · have : sdBase (tE t) (qk k) (kd k) = tE t := by
      unfold sdBase
      rw [find_yes hk]
      rfl
    rw [this]
    exact ⟨appT nd hk, cnt_le _ nd⟩
  · have : sdBase (tE t) (qk k) (kd k) = tE (t ++ [(k, [])]) := by
      unfold sdBase
      unfold tE
      rw [find_no _ hk]
      simp [eE]
    have nd2 : ((t ++ [(k, [])] : Tb).map (·.1)).Nodup := by
      rw [List.map_append, List.nodup_append]
      refine ⟨nd, by simp, fun a ha b hb => ?_⟩
      simp at hb
      rw [hb]
      exact fun e => hk (e ▸ ha)
    rw [this, appT nd2 (by simp), addT_snoc hk]
    exact ⟨rfl, cnt_le _ nd2⟩
/-- a table as the covers make it -/
def Px (x : D) : Prop := ∃ (n c : Nat), n < 16 ∧ c < 128 ∧ x = .tuple [.int n, .str ⟨#[c]⟩]
structure GT (N : Nat) (t : Tb) : Prop where
  nd : (t.map (·.1)).Nodup
  len : t.length ≤ N
  el : ∀ e ∈ t, e.1.1 < 16 ∧ e.1.2 < 16 ∧ e.2.length ≤ N ∧ ∀ x ∈ e.2, Px x
theorem GT.mono {N M : Nat} {t : Tb} (h : GT N t) (le : N ≤ M) : GT M t := ⟨h.nd, by have := h.len; omega, fun e he => by
  obtain ⟨h1, h2, h3, h4⟩ := h.el e he
  exact ⟨h1, h2, by omega, h4⟩⟩
theorem addT_keys {k : Spot} {x : D} : ∀ {t : Tb}, k ∈ t.map (·.1) → (addT t k x).map (·.1) = t.map (·.1)
  | [], h => by cases h
  | e :: r, hk => by
    by_cases h : e.1 = k
    · have : addT (e :: r) k x = (e.1, e.2 ++ [x]) :: r := if_pos h
      rw [this]
      rfl
    · have : addT (e :: r) k x = e :: addT r k x := if_neg h
      rw [this, List.map_cons, List.map_cons, addT_keys (by
            rcases List.mem_cons.mp hk with z | z
            · exact absurd z.symm h
            · exact z)]
theorem addT_mem {k : Spot} {x : D} : ∀ {t : Tb} {e : Spot × List D}, e ∈ addT t k x → e ∈ t ∨ ∃ l, e = (k, l ++ [x]) ∧ (l = [] ∨ (k, l) ∈ t)
  | [], e, h => by
    have : e = (k, [x]) := by simpa [addT] using h
    exact .inr ⟨[], this, .inl rfl⟩
  | e' :: r, e, h => by
    by_cases hh : e'.1 = k
    · have q : addT (e' :: r) k x = (e'.1, e'.2 ++ [x]) :: r := if_pos hh
      rw [q] at h
      rcases List.mem_cons.mp h with z | z
      · exact .inr ⟨e'.2, by rw [z, hh], .inr (by rw [← hh]; exact List.mem_cons_self)⟩
      · exact .inl (List.mem_cons_of_mem _ z)
    · have q : addT (e' :: r) k x = e' :: addT r k x := if_neg hh
      rw [q] at h
      rcases List.mem_cons.mp h with z | z
      · exact .inl (by rw [z]; exact List.mem_cons_self)
      · rcases addT_mem z with z | ⟨l, z1, z2⟩
        · exact .inl (List.mem_cons_of_mem _ z)
        · exact .inr ⟨l, z1, z2.imp id (List.mem_cons_of_mem _)⟩
theorem GT.add {N : Nat} {t : Tb} (h : GT N t) {k : Spot} {x : D} (h1 : k.1 < 16) (h2 : k.2 < 16) (hx : Px x) : GT (N + 1) (addT t k x) := by
  refine ⟨?_, ?_, fun e he => ?_⟩
  · by_cases hk : k ∈ t.map (·.1)
    · rw [addT_keys hk]
      exact h.nd
    · rw [addT_no hk, List.map_append, List.nodup_append]
      refine ⟨h.nd, by simp, fun a ha b hb => ?_⟩
      simp at hb
      rw [hb]
      exact fun e => hk (e ▸ ha)
  · by_cases hk : k ∈ t.map (·.1)
    · have := congrArg List.length (addT_keys (x := x) hk)
      simp only [List.length_map] at this
      rw [this]
      exact Nat.le_succ_of_le h.len
    · rw [addT_no hk]
      have := h.len
      simp
      omega
  · rcases addT_mem he with z | ⟨l, rfl, z⟩
    · obtain ⟨a, b, c, d⟩ := h.el e z
      exact ⟨a, b, by omega, d⟩
    · refine ⟨h1, h2, ?_, fun y hy => ?_⟩
      · rcases z with rfl | z
        · simp
        · have := (h.el _ z).2.2.1
          simp at this ⊢
          omega
      · rcases List.mem_append.mp hy with hy | hy
        · rcases z with rfl | z
          · cases hy
          · exact (h.el _ z).2.2.2 y hy
        · rw [List.mem_singleton.mp hy]
          exact hx
end Mi

/-! P10: both covers run. -/
namespace Mi
open PySem PySem.Spec PyProof.Rows L2

def chD (c : Nat) : D := .str ⟨#[c]⟩
theorem ne_dot {c : Nat} (h : c < 128) : neD (chD c) (.str (Str.ofString ".")) = some (.bool (decide (c ≠ 46))) := by
  have : ∀ c < 128, neD (chD c) (.str (Str.ofString ".")) = some (.bool (decide (c ≠ 46))) := by
    intro c hc
    have s1 : SeqAt.shaped (chD c) = true := by
      show (PyData.strOk _ && decide (0 ≤ 64)) = true
      rw [okS_strOk (by rw [okS_iff]; intro e he; simp at he; omega)]
      rfl
    have s2 : SeqAt.shaped (.str (Str.ofString ".")) = true := by decide +kernel
    unfold neD
    rw [s1, s2]
    show some (PyData.bool (!PyData.eqv (chD c) (PyData.str (Str.ofString ".")))) = _
    have : PyData.eqv (chD c) (.str (Str.ofString ".")) = decide (c = 46) := by
      have e : Str.ofString "." = ⟨#[46]⟩ := by decide +kernel
      rw [e]
      unfold chD
      simp only [PyData.eqv]
      by_cases z : c = 46
      · subst z
        rfl
      · rw [decide_eq_false z]
        apply beq_false_of_ne
        intro h
        injection h with h
        simp at h
        exact z h
    rw [this]
    by_cases z : c = 46 <;> simp [z]
  exact this c h
/-- the cells of a line from right on, of a sheet from down on -/
def lineCells (r c : Nat) : Nat → List Nat → List (Spot × Nat)
  | _, [] => []
  | i, x :: xs => if x = 46 then lineCells r c (i + 1) xs else ((r, c + i), x) :: lineCells r c (i + 1) xs
def sheetCells (r c : Nat) : Nat → List Str → List (Spot × Nat)
  | _, [] => []
  | i, s :: ss => lineCells (r + i) c 0 s.cps.toList ++ sheetCells r c (i + 1) ss
def addC (n : Nat) (t : Tb) (e : Spot × Nat) : Tb := addT t e.1 (.tuple [.int n, chD e.2])
def cellB : MB := (mIfS (mTest (mOp neD (mVar 7) (mC (.str (Str.ofString "."))))) (mSeq (mSet 8 (mTup (mCons (mOp addD (mOp ixD (mVar 3) (mC (.int 0))) (mVar 4)) (mCons (mOp addD (mOp ixD (mVar 3) (mC (.int 1))) (mVar 6)) mNil))))
    (mStore 1 (mVar 8) (mOp addD (mGetO 1 (mVar 8) (mLst mNil)) (mLst (mCons (mTup (mCons (mVar 2) (mCons (mVar 7) mNil))) mNil))))) mNx)
def covC (p : D) (t : Tb) (n : Nat) (sh : Cell) (x4 x5 x6 x7 x8 : Cell) : List Cell := [.fz p, .ow (.dt .fz) (.dict (tE t)), .fz (.int n), sh, x4, x5, x6, x7, x8]
theorem v_getO {i : Nat} {mk md : M} {cs c1 c2 : List Cell} {es0 : D} {k : D} {dd : D} {es : List (D × D)} {q : KK} (h0 : cs[i]? = some (.ow (.dt .fz) es0)) (h1 : mk cs = some (.fz k, c1)) (h2 : md c1 = some (.fz dd, c2)) (h3 : c2[i]? = some (.ow (.dt .fz) (.dict es))) (h4 : kOf k = some q) (h5 : sideS (.dt .fz) q = true) :
    mGetO i mk md cs = some (.fz ((findD es q).getD dd), c2) := by
  unfold mGetO
  rw [h0]
  simp only []
  rw [h1]
  simp only []
  rw [h2]
  simp only []
  rw [h3]
  simp only []
  rw [h4]
  simp only []
  rw [if_pos h5]
theorem st_dt {es : List (D × D)} {k : Spot} {cv : Cell} {d : D} (h : cellAs .fz cv = some d) (hl : es.length < LIM) : storeAs (.dt .fz) (.dict es) (kd k) cv = some (.dict (putD es (qk k) (kd k) d)) := by
  unfold storeAs
  simp only [kOf_kd, h]
  simp [qk, hl]
theorem Px.mk {n c : Nat} (hn : n < 16) (hc : c < 128) : Px (.tuple [.int n, chD c]) := ⟨n, c, hn, hc, rfl⟩
theorem tE_len (t : Tb) : (tE t).length = t.length := by
  unfold tE eE
  simp
theorem cell_run {p : D} {N n r c i j ch : Nat} {ds : List D} {t : Tb} {x5 x8 : Cell} (g : GT N t) (hN : N < 10000) (hn : n < 16) (hr : r + i < 16) (hc : c + j < 16) (hch : ch < 128) (hl : ∀ e ∈ t, e.2.length ≤ N) :
    ∃ x8', cellB (covC p t n (.fz (.tuple [.int r, .int c, .tuple ds])) (.fz (.int i)) x5 (.fz (.int j)) (.fz (chD ch)) x8) =
      some (.nx (covC p ((lineCells (r + i) c j [ch]).foldl (addC n) t) n (.fz (.tuple [.int r, .int c, .tuple ds])) (.fz (.int i)) x5 (.fz (.int j)) (.fz (chD ch)) x8')) ∧ GT (N + 1) ((lineCells (r + i) c j [ch]).foldl (addC n) t) := by
  unfold lineCells lineCells
  by_cases h : ch = 46
  · rw [if_pos h]
    exact ⟨x8, s_ifF (t_tst (v_op rfl rfl (z := .bool false) (by rw [ne_dot hch, h]; rfl))) rfl, g.mono (by omega)⟩
  · rw [if_neg h]
    refine ⟨.fz (kd (r + i, c + j)), s_ifT (t_tst (v_op rfl rfl (z := .bool true) (by rw [ne_dot hch, decide_eq_true h]))) ?_, g.add (k := (r + i, c + j)) hr hc (Px.mk hn hch)⟩
    have ll : (lkT t (r + i, c + j)).length ≤ N := by
      by_cases hk : (r + i, c + j) ∈ t.map (·.1)
      · have hf := find_yes hk
        have : ∀ t : Tb, (∀ e ∈ t, e.2.length ≤ N) → (lkT t (r + i, c + j)).length ≤ N := by
          intro t
          induction t with
          | nil => intro _; exact Nat.zero_le _
          | cons e r' ih =>
            intro h
            unfold lkT
            split
            · exact h e List.mem_cons_self
            · exact ih fun e he => h e (List.mem_cons_of_mem _ he)
        exact this t hl
      · rw [lkT_no hk]
        exact Nat.zero_le _
    have k0 : ∀ (a b : Nat), (PyData.int ((a : Int) + (b : Int))) = .int ((a + b : Nat) : Int) := fun a b => by rw [Int.natCast_add]
    refine r_seq (c1 := covC p t n (.fz (.tuple [.int r, .int c, .tuple ds])) (.fz (.int i)) x5 (.fz (.int j)) (.fz (chD ch)) (.fz (kd (r + i, c + j)))) (s_set (c := .fz (kd (r + i, c + j))) (c1 := covC p t n (.fz (.tuple [.int r, .int c, .tuple ds])) (.fz (.int i)) x5 (.fz (.int j)) (.fz (chD ch)) x8) (v_tup (v_cons (v_op (v_op rfl rfl rfl) rfl (congrArg some (k0 r i))) (v_cons (v_op (v_op rfl rfl rfl) rfl (congrArg some (k0 c j))) v_nil)) (show (2 : Nat) ≤ LIM by decide)) (by simp [covC])) ?_
    refine s_store (s := .dt .fz) (s' := .dt .fz) (kd := kd (r + i, c + j)) (d0 := .dict (tE t)) (d := .dict (tE t)) (cv := .fz (.list (lkT t (r + i, c + j) ++ [.tuple [.int n, chD ch]]))) (c1 := covC p t n (.fz (.tuple [.int r, .int c, .tuple ds])) (.fz (.int i)) x5 (.fz (.int j)) (.fz (chD ch)) (.fz (kd (r + i, c + j)))) (c2 := covC p t n (.fz (.tuple [.int r, .int c, .tuple ds])) (.fz (.int i)) x5 (.fz (.int j)) (.fz (chD ch)) (.fz (kd (r + i, c + j)))) ?_ rfl rfl rfl (by
      have g2 := g.len
      rw [st_dt (d := .list (lkT t (r + i, c + j) ++ [.tuple [.int n, chD ch]])) rfl (by rw [tE_len]; unfold LIM; omega), putT g.nd]
      rfl)
    refine v_op (v_getO rfl rfl (v_lst v_nil (Nat.zero_le _)) rfl (kOf_kd _) rfl) (v_lst (v_cons (v_tup (v_cons rfl (v_cons rfl v_nil)) (show (2 : Nat) ≤ LIM by decide)) v_nil) (show (1 : Nat) ≤ LIM by decide)) ?_
    rw [find_tE]
    show (if (lkT t (r + i, c + j)).length + 1 ≤ LIM then _ else _) = _
    rw [if_pos (by unfold LIM; omega)]
theorem foldl_line (r c i x : Nat) (xs : List Nat) {α : Type} (g : α → Spot × Nat → α) (t : α) : (lineCells r c i (x :: xs)).foldl g t = (lineCells r c (i + 1) xs).foldl g ((lineCells r c i [x]).foldl g t) := by
  have : lineCells r c i (x :: xs) = lineCells r c i [x] ++ lineCells r c (i + 1) xs := by
    show (if x = 46 then lineCells r c (i + 1) xs else ((r, c + i), x) :: lineCells r c (i + 1) xs) = (if x = 46 then [] else ((r, c + i), x) :: []) ++ _
    split <;> rfl
  rw [this, List.foldl_append]
def lineG : MG := (mgTup 2 (mgCons (mgName 6) (mgCons (mgName 7) mgNil)))
theorem line_cov {p : D} {n r c i : Nat} {ds : List D} {x5 : Cell} (hn : n < 16) (hr : r + i < 16) : ∀ (xs : List Nat) (j N : Nat) (t : Tb) (x6 x7 x8 : Cell), GT N t → N + xs.length < 10000 → c + j + xs.length ≤ 16 → (∀ x ∈ xs, x < 128) →
    ∃ x6' x7' x8', forGo lineG cellB (enumFrom j (xs.map chD)) (covC p t n (.fz (.tuple [.int r, .int c, .tuple ds])) (.fz (.int i)) x5 x6 x7 x8) =
      some (.nx (covC p ((lineCells (r + i) c j xs).foldl (addC n) t) n (.fz (.tuple [.int r, .int c, .tuple ds])) (.fz (.int i)) x5 x6' x7' x8')) ∧ GT (N + xs.length) ((lineCells (r + i) c j xs).foldl (addC n) t)
  | [], j, N, t, x6, x7, x8, g, _, _, _ => ⟨x6, x7, x8, rfl, g⟩
  | x :: xs, j, N, t, x6, x7, x8, g, hN, hj, hx => by
    rw [List.length_cons] at hN hj
    obtain ⟨x8', e, g1⟩ := cell_run (p := p) (n := n) (r := r) (c := c) (i := i) (j := j) (ch := x) (ds := ds) (x5 := x5) (x8 := x8) g (by omega) hn hr (by omega) (hx x List.mem_cons_self) (fun e he => (g.el e he).2.2.1)
    obtain ⟨y6, y7, y8, e2, g2⟩ := line_cov (p := p) (n := n) (r := r) (c := c) (i := i) (ds := ds) (x5 := x5) hn hr xs (j + 1) (N + 1) _ (.fz (.int j)) (.fz (chD x)) x8' g1 (by omega) (by omega) (fun y hy => hx y (List.mem_cons_of_mem _ hy))
    refine ⟨y6, y7, y8, ?_, ?_⟩
    · rw [foldl_line]
      show forGo lineG cellB (.tuple [.int (j : Int), chD x] :: enumFrom (j + 1) (xs.map chD)) _ = _
      unfold forGo
      have : lineG (.tuple [.int (j : Int), chD x]) (covC p t n (.fz (.tuple [.int r, .int c, .tuple ds])) (.fz (.int i)) x5 x6 x7 x8) = some (covC p t n (.fz (.tuple [.int r, .int c, .tuple ds])) (.fz (.int i)) x5 (.fz (.int j)) (.fz (chD x)) x8) := rfl
      rw [this]
      simp only []
      rw [e]
      exact e2
    · rw [foldl_line, List.length_cons, show N + (xs.length + 1) = N + 1 + xs.length by omega]
      exact g2
end Mi

/-! P11: both covers run, whole. -/
namespace Mi
open PySem PySem.Spec PyProof.Rows L2

structure Sht where
  r : Nat
  c : Nat
  ss : List Str
def Sht.d (s : Sht) : D := .tuple [.int s.r, .int s.c, .tuple (s.ss.map .str)]
def Sht.ok (s : Sht) : Prop := s.r ≤ 8 ∧ s.c ≤ 8 ∧ s.ss.length ≤ 8 ∧ ∀ x ∈ s.ss, x.length ≤ 8 ∧ okS x = true
theorem strs_of_ln {n : Nat} : ∀ {ds : List D}, (∀ d ∈ ds, Ln n d) → ∃ ss : List Str, ds = ss.map .str ∧ ∀ x ∈ ss, x.length ≤ n ∧ okS x = true
  | [], _ => ⟨[], rfl, fun _ h => by cases h⟩
  | d :: ds, h => by
    obtain ⟨s, rfl, h1, h2⟩ := h d (by simp)
    obtain ⟨ss, rfl, h3⟩ := strs_of_ln (fun z hz => h z (List.mem_cons_of_mem _ hz))
    refine ⟨s :: ss, rfl, fun x hx => ?_⟩
    rcases List.mem_cons.mp hx with rfl | hx
    · exact ⟨h1, h2⟩
    · exact h3 x hx
theorem shts_of : ∀ {ds : List D}, (∀ d ∈ ds, SheetD d) → ∃ hs : List Sht, ds = hs.map Sht.d ∧ ∀ h ∈ hs, h.ok
  | [], _ => ⟨[], rfl, fun _ h => by cases h⟩
  | d :: ds, h => by
    obtain ⟨r, c, ls, rfl, h1, h2, h3, h4⟩ := h d (by simp)
    obtain ⟨ss, rfl, h5⟩ := strs_of_ln h4
    obtain ⟨hs, rfl, h6⟩ := shts_of (fun z hz => h z (List.mem_cons_of_mem _ hz))
    refine ⟨⟨r, c, ss⟩ :: hs, rfl, fun x hx => ?_⟩
    rcases List.mem_cons.mp hx with rfl | hx
    · exact ⟨h1, h2, by simpa using h3, h5⟩
    · exact h6 x hx
def pileD (R C : Nat) (hs : List Sht) : D := .tuple [.int R, .int C, .tuple (hs.map Sht.d)]
/-! the law's cover -/
def lineG2 : MG := (mgTup 2 (mgCons (mgName 4) (mgCons (mgName 5) mgNil)))
def lineB : MB := mFor (iEnM (mCons (mVar 5) mNil)) lineG cellB
theorem forGo_cons {mg : MG} {b : MB} {d : D} {ds : List D} {cs c1 c2 : List Cell} {r : Option Fl} (h : mg d cs = some c1) (g : b c1 = some (.nx c2)) (q : forGo mg b ds c2 = r) : forGo mg b (d :: ds) cs = r := by
  unfold forGo
  rw [h]
  simp only []
  rw [g]
  exact q
theorem i_en {ma : MA} {cs c1 : List Cell} {d : D} {ds : List D} (h : ma cs = some ([d], c1)) (g : seqOf d = some ds) : iEnM ma cs = some (enumFrom 0 ds, c1) := by
  unfold iEnM
  rw [h]
  simp only []
  rw [g]
theorem seq_str {x : Str} (h : x.length ≤ 8) : seqOf (.str x) = some (x.cps.toList.map chD) := by
  show (if x.length ≤ LIM then some (strL x) else none) = _
  rw [if_pos (by unfold LIM; omega)]
  rfl
theorem toL_len (x : Str) : x.cps.toList.length = x.length := Array.length_toList
theorem sheet_cov {p : D} {n r c : Nat} {ds : List D} (hn : n < 16) (hr : r ≤ 8) (hc : c ≤ 8) : ∀ (ss : List Str) (i N : Nat) (t : Tb) (x4 x5 x6 x7 x8 : Cell), GT N t → N + 8 * ss.length < 10000 → i + ss.length ≤ 8 → (∀ x ∈ ss, x.length ≤ 8 ∧ okS x = true) →
    ∃ x4' x5' x6' x7' x8', forGo lineG2 lineB (enumFrom i (ss.map .str)) (covC p t n (.fz (.tuple [.int r, .int c, .tuple ds])) x4 x5 x6 x7 x8) =
      some (.nx (covC p ((sheetCells r c i ss).foldl (addC n) t) n (.fz (.tuple [.int r, .int c, .tuple ds])) x4' x5' x6' x7' x8')) ∧ GT (N + 8 * ss.length) ((sheetCells r c i ss).foldl (addC n) t)
  | [], i, N, t, x4, x5, x6, x7, x8, g, _, _, _ => ⟨x4, x5, x6, x7, x8, rfl, g⟩
  | s :: ss, i, N, t, x4, x5, x6, x7, x8, g, hN, hi, hx => by
    rw [List.length_cons] at hN hi
    obtain ⟨l8, ok⟩ := hx s List.mem_cons_self
    have tl := toL_len s
    obtain ⟨y6, y7, y8, e, g1⟩ := line_cov (p := p) (n := n) (r := r) (c := c) (i := i) (ds := ds) (x5 := .fz (.str s)) hn (by omega) s.cps.toList 0 N t x6 x7 x8 g (by omega) (by omega) (okS_iff.mp ok)
    obtain ⟨z4, z5, z6, z7, z8, e2, g2⟩ := sheet_cov (p := p) (n := n) (r := r) (c := c) (ds := ds) hn hr hc ss (i + 1) (N + 8) _ (.fz (.int i)) (.fz (.str s)) y6 y7 y8 (g1.mono (by omega)) (by omega) (by omega) (fun y hy => hx y (List.mem_cons_of_mem _ hy))
    have q : (sheetCells r c i (s :: ss)).foldl (addC n) t = (sheetCells r c (i + 1) ss).foldl (addC n) ((lineCells (r + i) c 0 s.cps.toList).foldl (addC n) t) := by
      show (lineCells (r + i) c 0 s.cps.toList ++ sheetCells r c (i + 1) ss).foldl (addC n) t = _
      rw [List.foldl_append]
    rw [q, List.length_cons, show N + 8 * (ss.length + 1) = N + 8 + 8 * ss.length by omega]
    refine ⟨z4, z5, z6, z7, z8, ?_, g2⟩
    exact forGo_cons (d := .tuple [.int (i : Int), .str s]) (c1 := covC p t n (.fz (.tuple [.int r, .int c, .tuple ds])) (.fz (.int i)) (.fz (.str s)) x6 x7 x8) rfl (s_for (i_en (v_cons rfl v_nil) (seq_str l8)) e) e2
def lineG3 : MG := (mgTup 2 (mgCons (mgName 2) (mgCons (mgName 3) mgNil)))
def sheetB2 : MB := mFor (iEnM (mCons (mOp ixD (mVar 3) (mC (.int 2))) mNil)) lineG2 lineB
def covT : Nat → List Sht → Tb → Tb
  | _, [], t => t
  | n, s :: r, t => covT (n + 1) r ((sheetCells s.r s.c 0 s.ss).foldl (addC n) t)
theorem pile_cov {p : D} : ∀ (hs : List Sht) (n N : Nat) (t : Tb) (x2 x3 x4 x5 x6 x7 x8 : Cell), GT N t → N + 64 * hs.length < 10000 → n + hs.length ≤ 10 → (∀ h ∈ hs, h.ok) →
    ∃ cs', forGo lineG3 sheetB2 (enumFrom n (hs.map Sht.d)) (.fz p :: .ow (.dt .fz) (.dict (tE t)) :: [x2, x3, x4, x5, x6, x7, x8]) =
      some (.nx (.fz p :: .ow (.dt .fz) (.dict (tE (covT n hs t))) :: cs')) ∧ GT (N + 64 * hs.length) (covT n hs t)
  | [], n, N, t, x2, x3, x4, x5, x6, x7, x8, g, _, _, _ => ⟨_, rfl, g⟩
  | h :: hs, n, N, t, x2, x3, x4, x5, x6, x7, x8, g, hN, hn, hx => by
    rw [List.length_cons] at hN hn
    obtain ⟨r8, c8, l8, ok⟩ := hx h List.mem_cons_self
    obtain ⟨y4, y5, y6, y7, y8, e, g1⟩ := sheet_cov (p := p) (n := n) (r := h.r) (c := h.c) (ds := h.ss.map .str) (by omega) r8 c8 h.ss 0 N t x4 x5 x6 x7 x8 g (by omega) (by omega) ok
    obtain ⟨cs', e2, g2⟩ := pile_cov (p := p) hs (n + 1) (N + 64) _ (.fz (.int n)) (.fz h.d) y4 y5 y6 y7 y8 (g1.mono (by omega)) (by omega) (by omega) (fun y hy => hx y (List.mem_cons_of_mem _ hy))
    refine ⟨cs', ?_, ?_⟩
    · exact forGo_cons (d := .tuple [.int (n : Int), h.d]) (c1 := covC p t n (.fz h.d) x4 x5 x6 x7 x8) rfl (s_for (i_en (d := .tuple (h.ss.map .str)) (ds := h.ss.map .str) (v_cons (v_op rfl rfl rfl) v_nil) rfl) e) e2
    · rw [List.length_cons, show N + 64 * (hs.length + 1) = N + 64 + 64 * hs.length by omega]
      exact g2
theorem GT.nil : GT 0 [] := ⟨List.nodup_nil, Nat.le_refl _, fun _ h => by cases h⟩
theorem l_covered_run {R C : Nat} {hs : List Sht} (h10 : hs.length ≤ 10) (ok : ∀ h ∈ hs, h.ok) :
    f_l_covered [pileD R C hs] = some (.ow (.dt .fz) (.dict (tE (covT 0 hs [])))) ∧ GT 640 (covT 0 hs []) := by
  obtain ⟨cs', e, g⟩ := pile_cov (p := pileD R C hs) hs 0 0 [] .un .un .un .un .un .un .un GT.nil (by omega) (by omega) ok
  refine ⟨fnP_run (cs' := .fz (pileD R C hs) :: .un :: cs') ?_, g.mono (by omega)⟩
  show m_l_covered [.fz (pileD R C hs), .un, .un, .un, .un, .un, .un, .un, .un] = _
  refine r_seq (c1 := [.fz (pileD R C hs), .ow (.dt .fz) (.dict []), .un, .un, .un, .un, .un, .un, .un]) rfl ?_
  refine r_seq (s_for (i_en (d := .tuple (hs.map Sht.d)) (v_cons (v_op rfl rfl rfl) v_nil) rfl) e) ?_
  rfl
/-! the program's -/
def letB : MB := (mIfS (mTest (mOp neD (mVar 8) (mC (.str (Str.ofString "."))))) (mStore 1 (mTup (mCons (mOp addD (mVar 2) (mVar 5)) (mCons (mOp addD (mVar 3) (mVar 7)) mNil))) (mVar 8)) mNx)
def letC (p : D) (l : List (Spot × Nat)) (r c : Nat) (x4 x5 x6 x7 x8 : Cell) : List Cell := [.fz p, .ow (.dt .fz) (.dict (eE chD l)), .fz (.int r), .fz (.int c), x4, x5, x6, x7, x8]
def Fr (a b : Nat) (l : List (Spot × Nat)) : Prop := ∀ e ∈ l, e.1.1 < a ∨ (e.1.1 = a ∧ e.1.2 < b)
theorem Fr.mono {a b a' b' : Nat} {l : List (Spot × Nat)} (h : Fr a b l) (q : a < a' ∨ (a = a' ∧ b ≤ b')) : Fr a' b' l := fun e he => by
  have := h e he
  omega
theorem Fr.new {a b : Nat} {l : List (Spot × Nat)} (h : Fr a b l) : (a, b) ∉ l.map (·.1) := fun hm => by
  obtain ⟨e, he, q⟩ := List.mem_map.mp hm
  have := h e he
  rw [q] at this
  simp at this
theorem Fr.snoc {a b x : Nat} {l : List (Spot × Nat)} (h : Fr a b l) : Fr a (b + 1) (l ++ [((a, b), x)]) := fun e he => by
  rcases List.mem_append.mp he with he | he
  · have := h e he
    omega
  · rw [List.mem_singleton.mp he]
    exact .inr ⟨rfl, Nat.lt_succ_self _⟩
theorem eE_len (l : List (Spot × Nat)) : (eE chD l).length = l.length := by
  unfold eE
  simp
theorem let_run {p : D} {r c i j ch : Nat} {l : List (Spot × Nat)} {x4 x6 : Cell} (f : Fr (r + i) (c + j) l) (hl : l.length < 10000) (hch : ch < 128) :
    letB (letC p l r c x4 (.fz (.int i)) x6 (.fz (.int j)) (.fz (chD ch))) = some (.nx (letC p (l ++ lineCells (r + i) c j [ch]) r c x4 (.fz (.int i)) x6 (.fz (.int j)) (.fz (chD ch)))) ∧ Fr (r + i) (c + j + 1) (l ++ lineCells (r + i) c j [ch]) ∧ (l ++ lineCells (r + i) c j [ch]).length ≤ l.length + 1 := by
  unfold lineCells lineCells
  by_cases h : ch = 46
  · rw [if_pos h, List.append_nil]
    exact ⟨s_ifF (t_tst (v_op rfl rfl (z := .bool false) (by rw [ne_dot hch, h]; rfl))) rfl, f.mono (by omega), by omega⟩
  · rw [if_neg h]
    have k0 : ∀ (a b : Nat), (PyData.int ((a : Int) + (b : Int))) = .int ((a + b : Nat) : Int) := fun a b => by rw [Int.natCast_add]
    refine ⟨s_ifT (t_tst (v_op rfl rfl (z := .bool true) (by rw [ne_dot hch, decide_eq_true h]))) ?_, f.snoc, by simp⟩
    exact s_store (s := .dt .fz) (s' := .dt .fz) (kd := kd (r + i, c + j)) (d0 := .dict (eE chD l)) (d := .dict (eE chD l)) (cv := .fz (chD ch)) (c1 := letC p l r c x4 (.fz (.int i)) x6 (.fz (.int j)) (.fz (chD ch))) (c2 := letC p l r c x4 (.fz (.int i)) x6 (.fz (.int j)) (.fz (chD ch))) rfl rfl (v_tup (v_cons (v_op rfl rfl (congrArg some (k0 r i))) (v_cons (v_op rfl rfl (congrArg some (k0 c j))) v_nil)) (show (2 : Nat) ≤ LIM by decide)) rfl (by
      rw [st_dt (d := chD ch) rfl (by rw [eE_len]; unfold LIM; omega), put_new chD f.new])
def letG : MG := (mgTup 2 (mgCons (mgName 7) (mgCons (mgName 8) mgNil)))
theorem line_cons (r c i x : Nat) (xs : List Nat) : lineCells r c i (x :: xs) = lineCells r c i [x] ++ lineCells r c (i + 1) xs := by
  show (if x = 46 then lineCells r c (i + 1) xs else ((r, c + i), x) :: lineCells r c (i + 1) xs) = (if x = 46 then [] else ((r, c + i), x) :: []) ++ _
  split <;> rfl
theorem line_let {p : D} {r c i : Nat} {x4 x6 : Cell} : ∀ (xs : List Nat) (j : Nat) (l : List (Spot × Nat)) (x7 x8 : Cell), Fr (r + i) (c + j) l → l.length + xs.length < 10000 → (∀ x ∈ xs, x < 128) →
    ∃ x7' x8', forGo letG letB (enumFrom j (xs.map chD)) (letC p l r c x4 (.fz (.int i)) x6 x7 x8) = some (.nx (letC p (l ++ lineCells (r + i) c j xs) r c x4 (.fz (.int i)) x6 x7' x8')) ∧ Fr (r + i) (c + j + xs.length) (l ++ lineCells (r + i) c j xs) ∧ (l ++ lineCells (r + i) c j xs).length ≤ l.length + xs.length
  | [], j, l, x7, x8, f, _, _ => ⟨x7, x8, by rw [show lineCells (r + i) c j [] = [] from rfl, List.append_nil]; rfl, by rw [show lineCells (r + i) c j [] = [] from rfl, List.append_nil]; exact f, by rw [show lineCells (r + i) c j [] = [] from rfl, List.append_nil]; exact Nat.le_refl _⟩
  | x :: xs, j, l, x7, x8, f, hl, hx => by
    rw [List.length_cons] at hl
    obtain ⟨e, f1, l1⟩ := let_run (p := p) (x4 := x4) (x6 := x6) (ch := x) f (by omega) (hx x List.mem_cons_self)
    obtain ⟨y7, y8, e2, f2, l2⟩ := line_let (p := p) (r := r) (c := c) (i := i) (x4 := x4) (x6 := x6) xs (j + 1) _ (.fz (.int j)) (.fz (chD x)) f1 (by omega) (fun y hy => hx y (List.mem_cons_of_mem _ hy))
    rw [line_cons, ← List.append_assoc, List.length_cons]
    refine ⟨y7, y8, ?_, f2.mono (by omega), by omega⟩
    exact forGo_cons (d := .tuple [.int (j : Int), chD x]) (c1 := letC p l r c x4 (.fz (.int i)) x6 (.fz (.int j)) (.fz (chD x))) rfl e e2
def letG2 : MG := (mgTup 2 (mgCons (mgName 5) (mgCons (mgName 6) mgNil)))
def letB2 : MB := mFor (iEnM (mCons (mVar 6) mNil)) letG letB
theorem sheet_let {p : D} {r c : Nat} {x4 : Cell} : ∀ (ss : List Str) (i : Nat) (l : List (Spot × Nat)) (x5 x6 x7 x8 : Cell), Fr (r + i) c l → l.length + 8 * ss.length < 10000 → (∀ x ∈ ss, x.length ≤ 8 ∧ okS x = true) →
    ∃ cs', forGo letG2 letB2 (enumFrom i (ss.map .str)) (letC p l r c x4 x5 x6 x7 x8) = some (.nx (.fz p :: .ow (.dt .fz) (.dict (eE chD (l ++ sheetCells r c i ss))) :: cs'))
  | [], i, l, x5, x6, x7, x8, f, _, _ => ⟨[.fz (.int r), .fz (.int c), x4, x5, x6, x7, x8], by rw [show sheetCells r c i [] = [] from rfl, List.append_nil]; rfl⟩
  | s :: ss, i, l, x5, x6, x7, x8, f, hl, hx => by
    rw [List.length_cons] at hl
    obtain ⟨l8, ok⟩ := hx s List.mem_cons_self
    have tl := toL_len s
    obtain ⟨y7, y8, e, f1, l1⟩ := line_let (p := p) (r := r) (c := c) (i := i) (x4 := x4) (x6 := .fz (.str s)) s.cps.toList 0 l x7 x8 f (by omega) (okS_iff.mp ok)
    obtain ⟨cs', e2⟩ := sheet_let (p := p) (r := r) (c := c) (x4 := x4) ss (i + 1) _ (.fz (.int i)) (.fz (.str s)) y7 y8 (f1.mono (.inl (by omega))) (by omega) (fun y hy => hx y (List.mem_cons_of_mem _ hy))
    refine ⟨cs', ?_⟩
    rw [show sheetCells r c i (s :: ss) = lineCells (r + i) c 0 s.cps.toList ++ sheetCells r c (i + 1) ss from rfl, ← List.append_assoc]
    exact forGo_cons (d := .tuple [.int (i : Int), .str s]) (c1 := letC p l r c x4 (.fz (.int i)) (.fz (.str s)) x7 x8) rfl (s_for (i_en (v_cons rfl v_nil) (seq_str l8)) e) e2
theorem letters_run {h : Sht} (ok : h.ok) : f_p_letters_of [h.d] = some (.ow (.dt .fz) (.dict (eE chD (sheetCells h.r h.c 0 h.ss)))) := by
  obtain ⟨r8, c8, l8, ok⟩ := ok
  obtain ⟨cs', e⟩ := sheet_let (p := h.d) (r := h.r) (c := h.c) (x4 := .fz (.tuple (h.ss.map .str))) h.ss 0 [] .un .un .un .un (fun _ h => by cases h) (by simp; omega) ok
  refine fnP_run (cs' := .fz h.d :: .un :: cs') ?_
  show m_p_letters_of [.fz h.d, .un, .un, .un, .un, .un, .un, .un, .un] = _
  refine r_seq (c1 := [.fz h.d, .un, .fz (.int h.r), .fz (.int h.c), .fz (.tuple (h.ss.map .str)), .un, .un, .un, .un]) rfl ?_
  refine r_seq (c1 := letC h.d [] h.r h.c (.fz (.tuple (h.ss.map .str))) .un .un .un .un) rfl ?_
  refine r_seq (s_for (i_en (d := .tuple (h.ss.map .str)) (v_cons rfl v_nil) rfl) e) ?_
  rfl
theorem line_mem {r c : Nat} : ∀ {xs : List Nat} {j : Nat} {e : Spot × Nat}, e ∈ lineCells r c j xs → (∀ x ∈ xs, x < 128) → e.1.1 = r ∧ e.1.2 < c + j + xs.length ∧ e.2 < 128
  | [], _, _, h, _ => by cases h
  | x :: xs, j, e, h, hx => by
    rw [line_cons] at h
    rcases List.mem_append.mp h with h | h
    · unfold lineCells lineCells at h
      split at h
      · cases h
      · rw [List.mem_singleton.mp h]
        exact ⟨rfl, by simp, hx x List.mem_cons_self⟩
    · obtain ⟨h1, h2, h3⟩ := line_mem h fun y hy => hx y (List.mem_cons_of_mem _ hy)
      exact ⟨h1, by rw [List.length_cons]; omega, h3⟩
theorem sheet_mem {r c : Nat} (hc : c ≤ 8) : ∀ {ss : List Str} {i : Nat} {e : Spot × Nat}, e ∈ sheetCells r c i ss → (∀ x ∈ ss, x.length ≤ 8 ∧ okS x = true) → r + i + ss.length ≤ 16 → e.1.1 < 16 ∧ e.1.2 < 16 ∧ e.2 < 128
  | [], _, _, h, _, _ => by cases h
  | s :: ss, i, e, h, hx, hl => by
    rw [List.length_cons] at hl
    obtain ⟨l8, ok⟩ := hx s List.mem_cons_self
    have tl := toL_len s
    rcases List.mem_append.mp h with h | h
    · obtain ⟨h1, h2, h3⟩ := line_mem h (okS_iff.mp ok)
      exact ⟨by omega, by omega, h3⟩
    · exact sheet_mem hc h (fun y hy => hx y (List.mem_cons_of_mem _ hy)) (by omega)
def sdB : MB := (mSdApp 1 (mVar 4) (mTup (mCons (mVar 2) (mCons (mVar 5) mNil))))
def sdG : MG := (mgTup 2 (mgCons (mgName 4) (mgCons (mgName 5) mgNil)))
def sdC (p : D) (t : Tb) (x2 x3 x4 x5 : Cell) : List Cell := [.fz p, .ow (.dt (.l .fz)) (.dict (tE t)), x2, x3, x4, x5]
theorem sd_run {p : D} {N n : Nat} {k : Spot} {ch : Nat} {t : Tb} {x3 : Cell} (g : GT N t) (hN : N < 10000) (hn : n < 16) (h1 : k.1 < 16) (h2 : k.2 < 16) (hch : ch < 128) :
    sdB (sdC p t (.fz (.int n)) x3 (.fz (kd k)) (.fz (chD ch))) = some (.nx (sdC p (addC n t (k, ch)) (.fz (.int n)) x3 (.fz (kd k)) (.fz (chD ch)))) ∧ GT (N + 1) (addC n t (k, ch)) := by
  refine ⟨?_, g.add h1 h2 (Px.mk hn hch)⟩
  have tup : mTup (mCons (mVar 2) (mCons (mVar 5) mNil)) [.fz p, .un, .fz (.int n), x3, .fz (kd k), .fz (chD ch)] = some (.fz (.tuple [.int n, chD ch]), [.fz p, .un, .fz (.int n), x3, .fz (kd k), .fz (chD ch)]) := v_tup (v_cons rfl (v_cons rfl v_nil)) (show (2 : Nat) ≤ LIM by decide)
  obtain ⟨q1, q2⟩ := sdT (k := k) (x := .tuple [.int n, chD ch]) g.nd
  have len : lenOk (findD (tE t) (qk k)) = true := by
    by_cases hk : k ∈ t.map (·.1)
    · rw [find_yes hk]
      show decide _ = true
      rw [decide_eq_true_eq]
      have : ∀ t : Tb, (∀ e ∈ t, e.2.length ≤ N) → (lkT t k).length ≤ N := by
        intro t
        induction t with
        | nil => intro _; exact Nat.zero_le _
        | cons e r' ih =>
          intro h
          unfold lkT
          split
          · exact h e List.mem_cons_self
          · exact ih fun e he => h e (List.mem_cons_of_mem _ he)
      have := this t (fun e he => (g.el e he).2.2.1)
      unfold LIM
      omega
    · unfold tE
      rw [find_no _ hk]
      rfl
  have gl := g.len
  show (match mTup (mCons (mVar 2) (mCons (mVar 5) mNil)) [.fz p, .un, .fz (.int n), x3, .fz (kd k), .fz (chD ch)] with
    | some (.fz x, c2) => if (tE t).length < LIM ∧ cntD (sdBase (tE t) (qk k) (kd k)) (qk k) ≤ 1 ∧ lenOk (findD (tE t) (qk k)) = true ∧ 1 < c2.length then some (Fl.nx (c2.set 1 (.ow (.dt (.l .fz)) (.dict (appAt (sdBase (tE t) (qk k) (kd k)) (qk k) x))))) else none
    | _ => none) = _
  rw [tup]
  simp only []
  rw [if_pos ⟨by rw [tE_len]; unfold LIM; omega, q2, len, by simp⟩, q1]
  rfl
theorem item_run {p : D} {n : Nat} {x3 : Cell} (hn : n < 16) : ∀ (l : List (Spot × Nat)) (N : Nat) (t : Tb) (x4 x5 : Cell), GT N t → N + l.length < 10000 → (∀ e ∈ l, e.1.1 < 16 ∧ e.1.2 < 16 ∧ e.2 < 128) →
    ∃ x4' x5', forGo sdG sdB ((eE chD l).map fun e => .tuple [e.1, e.2]) (sdC p t (.fz (.int n)) x3 x4 x5) = some (.nx (sdC p (l.foldl (addC n) t) (.fz (.int n)) x3 x4' x5')) ∧ GT (N + l.length) (l.foldl (addC n) t)
  | [], N, t, x4, x5, g, _, _ => ⟨x4, x5, rfl, g⟩
  | e :: l, N, t, x4, x5, g, hN, hl => by
    rw [List.length_cons] at hN
    obtain ⟨h1, h2, h3⟩ := hl e List.mem_cons_self
    obtain ⟨q, g1⟩ := sd_run (p := p) (x3 := x3) (k := e.1) (ch := e.2) g (by omega) hn h1 h2 h3
    obtain ⟨y4, y5, e2, g2⟩ := item_run (p := p) (x3 := x3) hn l (N + 1) _ (.fz (kd e.1)) (.fz (chD e.2)) g1 (by omega) (fun y hy => hl y (List.mem_cons_of_mem _ hy))
    refine ⟨y4, y5, ?_, by rw [List.length_cons, show N + (l.length + 1) = N + 1 + l.length by omega]; exact g2⟩
    exact forGo_cons (d := .tuple [kd e.1, chD e.2]) (c1 := sdC p t (.fz (.int n)) x3 (.fz (kd e.1)) (.fz (chD e.2))) rfl q e2
theorem i_it {me : M} {cs c1 : List Cell} {es : List (D × D)} (h : me cs = some (.fz (.dict es), c1)) : iItM me cs = some (es.map fun e => .tuple [e.1, e.2], c1) := by
  unfold iItM
  rw [h]
def pileB2 : MB := (mFor (iItM (mFrz (mCallP f_p_letters_of (mCons (mVar 3) mNil)))) sdG sdB)
theorem line_len {r c : Nat} : ∀ {xs : List Nat} {j : Nat}, (lineCells r c j xs).length ≤ xs.length
  | [], _ => Nat.le_refl _
  | x :: xs, j => by
    have := line_len (r := r) (c := c) (xs := xs) (j := j + 1)
    unfold lineCells
    split <;> simp <;> omega
theorem sheet_len {r c : Nat} : ∀ {ss : List Str} {i : Nat}, (∀ x ∈ ss, x.length ≤ 8 ∧ okS x = true) → (sheetCells r c i ss).length ≤ 8 * ss.length
  | [], _, _ => Nat.le_refl _
  | s :: ss, i, h => by
    have := sheet_len (r := r) (c := c) (ss := ss) (i := i + 1) fun y hy => h y (List.mem_cons_of_mem _ hy)
    have l1 := line_len (r := r + i) (c := c) (xs := s.cps.toList) (j := 0)
    have tl := toL_len s
    have := (h s List.mem_cons_self).1
    show (lineCells (r + i) c 0 s.cps.toList ++ sheetCells r c (i + 1) ss).length ≤ _
    rw [List.length_append, List.length_cons]
    omega
theorem pile_let {p : D} : ∀ (hs : List Sht) (n N : Nat) (t : Tb) (x2 x3 x4 x5 : Cell), GT N t → N + 64 * hs.length < 10000 → n + hs.length ≤ 10 → (∀ h ∈ hs, h.ok) →
    ∃ cs', forGo lineG3 pileB2 (enumFrom n (hs.map Sht.d)) (sdC p t x2 x3 x4 x5) = some (.nx (.fz p :: .ow (.dt (.l .fz)) (.dict (tE (covT n hs t))) :: cs'))
  | [], n, N, t, x2, x3, x4, x5, g, _, _, _ => ⟨_, rfl⟩
  | h :: hs, n, N, t, x2, x3, x4, x5, g, hN, hn, hx => by
    rw [List.length_cons] at hN hn
    have ok := hx h List.mem_cons_self
    have lr := letters_run ok
    obtain ⟨r8, c8, l8, ok⟩ := ok
    have sl := sheet_len (r := h.r) (c := h.c) (i := 0) ok
    obtain ⟨y4, y5, e, g1⟩ := item_run (p := p) (n := n) (x3 := .fz h.d) (by omega) (sheetCells h.r h.c 0 h.ss) N t x4 x5 g (by omega) (fun e he => sheet_mem c8 he ok (by omega))
    obtain ⟨cs', e2⟩ := pile_let (p := p) hs (n + 1) (N + 64) _ (.fz (.int n)) (.fz h.d) y4 y5 (g1.mono (by omega)) (by omega) (by omega) (fun y hy => hx y (List.mem_cons_of_mem _ hy))
    exact ⟨cs', forGo_cons (d := .tuple [.int (n : Int), h.d]) (c1 := sdC p t (.fz (.int n)) (.fz h.d) x4 x5) rfl (s_for (i_it (v_frzO (v_callP (v_cons rfl v_nil) lr))) e) e2⟩
theorem p_covered_run {R C : Nat} {hs : List Sht} (h10 : hs.length ≤ 10) (ok : ∀ h ∈ hs, h.ok) :
    f_p_covered [pileD R C hs] = some (.ow (.dt (.l .fz)) (.dict (tE (covT 0 hs [])))) := by
  obtain ⟨cs', e⟩ := pile_let (p := pileD R C hs) hs 0 0 [] .un .un .un .un GT.nil (by omega) (by omega) ok
  refine fnP_run (cs' := .fz (pileD R C hs) :: .un :: cs') ?_
  show m_p_covered [.fz (pileD R C hs), .un, .un, .un, .un, .un] = _
  refine r_seq (c1 := sdC (pileD R C hs) [] .un .un .un .un) rfl ?_
  refine r_seq (s_for (i_en (d := .tuple (hs.map Sht.d)) (v_cons (v_op rfl rfl rfl) v_nil) rfl) e) ?_
  rfl
end Mi

/-! P12: data shown; data the same. -/
namespace Mi
open PySem PySem.Spec PyProof.Rows L2

structure Dn (k n : Nat) (d : D) : Prop where
  lay : PyData.canLay0 d = true
  dep : d.depth ≤ k
  sh : d.showable = true
  ok : okS d.shown = true
  len : d.shown.length ≤ n
theorem int_ok : ∀ i < 17, okS (PyData.int ((i : Nat) : Int)).shown = true ∧ (PyData.int ((i : Nat) : Int)).shown.length ≤ 2 ∧ (PyData.int ((i : Nat) : Int)).showable = true := by decide +kernel
theorem Dn.int {i : Nat} (h : i < 17) : Dn 0 2 (.int i) := by
  obtain ⟨h1, h2, h3⟩ := int_ok i h
  exact ⟨rfl, Nat.le_refl _, h3, h1, h2⟩
theorem rc_ok : ∀ q ∈ [34, 39], ∀ c < 128, (Builtin.Str.reprChar q c).all (fun x => decide (x < 128)) = true := by decide +kernel
theorem rf_ok {q : Nat} (hq : q ∈ [34, 39]) : ∀ (l : List Nat) (acc : Array Nat), (∀ c ∈ acc.toList, c < 128) → (∀ c ∈ l, c < 128) → ∀ c ∈ (l.foldl (fun out c => out ++ (Builtin.Str.reprChar q c).toArray) acc).toList, c < 128
  | [], acc, h, _ => h
  | x :: l, acc, h, hl => by
    refine rf_ok hq l _ (fun c hc => ?_) fun c hc => hl c (List.mem_cons_of_mem _ hc)
    simp only [Array.toList_append] at hc
    rcases List.mem_append.mp hc with hc | hc
    · exact h c hc
    · have := rc_ok q hq x (hl x List.mem_cons_self)
      rw [List.all_eq_true] at this
      exact of_decide_eq_true (this c hc)
theorem rq_ok (x : Str) : reprQuote x ∈ [34, 39] := by
  unfold reprQuote
  split <;> simp
theorem Dn.str {x : Str} {m : Nat} (h : okS x = true) (hl : x.length ≤ m) : Dn 0 (10 * m + 2) (.str x) := by
  refine ⟨okS_strOk h, Nat.le_refl _, rfl, ?_, ?_⟩
  · rw [okS_iff]
    intro c hc
    have q := rq_ok x
    rw [okS_iff] at h
    have e : (PyData.str x).shown.cps.toList = (x.cps.toList.foldl (fun out c => out ++ (Builtin.Str.reprChar (reprQuote x) c).toArray) #[reprQuote x]).toList ++ [reprQuote x] := by
      show (Array.push _ _).toList = _
      rw [Array.toList_push, ← Array.foldl_toList]
    rw [e] at hc
    rcases List.mem_append.mp hc with hc | hc
    · refine rf_ok q _ _ (fun d hd => ?_) h c hc
      simp at hd q
      omega
    · simp at hc q
      omega
  · have := StrLaws.reprText_len x (fun c hc => by have := (okS_iff.mp h) c hc; omega)
    show (reprText x).length ≤ _
    omega
theorem okS_join {sep : Str} (hs : okS sep = true) : ∀ ys : List Str, (∀ y ∈ ys, okS y = true) → okS (Str.join sep ys) = true
  | [], _ => rfl
  | [x], h => h x (by simp)
  | x :: y :: r, h => by
    have h1 := okS_join hs (y :: r) fun z hz => h z (List.mem_cons_of_mem _ hz)
    have e : Str.join sep (x :: y :: r) = x ++ sep ++ Str.join sep (y :: r) := rfl
    rw [e]
    exact okS_append (okS_append (h x (by simp)) hs) h1
theorem join_len (sep : Str) : ∀ ts : List Str, (Str.join sep ts).length ≤ (ts.map (·.length)).sum + ts.length * sep.length
  | [] => Nat.zero_le _
  | [x] => by
    show x.length ≤ _
    simp
  | x :: y :: r => by
    have h := join_len sep (y :: r)
    have e : Str.join sep (x :: y :: r) = x ++ sep ++ Str.join sep (y :: r) := rfl
    rw [e, len_append, len_append]
    simp only [List.map_cons, List.sum_cons, List.length_cons, Nat.add_mul, Nat.one_mul] at h ⊢
    omega
theorem lay_all : ∀ {ds : List D}, (∀ d ∈ ds, PyData.canLay0 d = true) → PyData.canLayAll0 ds = true
  | [], _ => rfl
  | d :: ds, h => by
    simp only [PyData.canLayAll0, Bool.and_eq_true]
    exact ⟨h d List.mem_cons_self, lay_all fun z hz => h z (List.mem_cons_of_mem _ hz)⟩
theorem show_all : ∀ {ds : List D}, (∀ d ∈ ds, PyData.showable d = true) → PyData.showableAll ds = true
  | [], _ => rfl
  | d :: ds, h => by
    simp only [PyData.showableAll, Bool.and_eq_true]
    exact ⟨h d List.mem_cons_self, show_all fun z hz => h z (List.mem_cons_of_mem _ hz)⟩
theorem dep_all {k : Nat} : ∀ {ds : List D}, (∀ d ∈ ds, PyData.depth d ≤ k) → PyData.depthAll ds ≤ k
  | [], _ => Nat.zero_le _
  | d :: ds, h => by
    simp only [PyData.depthAll]
    have := h d List.mem_cons_self
    have := dep_all fun z hz => h z (List.mem_cons_of_mem _ hz)
    omega
theorem sum_le {n : Nat} : ∀ {ds : List D}, (∀ d ∈ ds, d.shown.length ≤ n) → (((ds.map PyData.shown).map (·.length)).sum) ≤ ds.length * n
  | [], _ => Nat.zero_le _
  | d :: ds, h => by
    have := h d List.mem_cons_self
    have := sum_le fun z hz => h z (List.mem_cons_of_mem _ hz)
    simp only [List.map_cons, List.sum_cons, List.length_cons, Nat.add_mul]
    omega
theorem Dn.tup {k n m : Nat} {ds : List D} (h : ∀ d ∈ ds, Dn k n d) (hm : ds.length ≤ m) : Dn (k + 1) (m * (n + 2) + 3) (.tuple ds) := by
  refine ⟨lay_all fun d hd => (h d hd).lay, ?_, show_all fun d hd => (h d hd).sh, ?_, ?_⟩
  · show PyData.depthAll ds + 1 ≤ _
    have := dep_all fun d hd => (h d hd).dep
    omega
  · show okS (tupleText (PyData.shownAll ds)) = true
    rw [shownAll_eq_map]
    unfold tupleText
    refine okS_append (okS_append (by decide +kernel) (okS_join (by decide +kernel) _ fun y hy => ?_)) (by split <;> decide +kernel)
    obtain ⟨d, hd, rfl⟩ := List.mem_map.mp hy
    exact (h d hd).ok
  · show (tupleText (PyData.shownAll ds)).length ≤ _
    rw [shownAll_eq_map]
    unfold tupleText
    have j := join_len ", " (ds.map PyData.shown)
    have s := sum_le fun d hd => (h d hd).len
    rw [len_append, len_append]
    have e1 : (("(" : String) : Str).length = 1 := rfl
    have e2 : ((if (ds.map PyData.shown).length == 1 then ",)" else ")" : String) : Str).length ≤ 2 := by split <;> decide
    have e3 : ds.length * n + ds.length * 2 ≤ m * (n + 2) := by
      rw [← Nat.mul_add]
      exact Nat.mul_le_mul_right _ hm
    have e4 : ((", " : String) : Str).length = 2 := rfl
    rw [List.length_map, e4] at j
    omega
theorem Dn.mono {k n k' n' : Nat} {d : D} (h : Dn k n d) (hk : k ≤ k') (hn : n ≤ n') : Dn k' n' d := ⟨h.lay, Nat.le_trans h.dep hk, h.sh, h.ok, Nat.le_trans h.len hn⟩
theorem Dn.shaped {k n : Nat} {d : D} (h : Dn k n d) (hk : k ≤ 64) : SeqAt.shaped d = true := by
  unfold SeqAt.shaped
  rw [h.lay, Bool.true_and, decide_eq_true_eq]
  exact Nat.le_trans h.dep hk
theorem sheet_dn {h : Sht} (ok : h.ok) : Dn 2 2100 h.d := by
  obtain ⟨r8, c8, l8, ok⟩ := ok
  have l : Dn 1 700 (.tuple (h.ss.map .str)) := (Dn.tup (k := 0) (n := 82) (m := 8) (fun d hd => by
    obtain ⟨s, hs, rfl⟩ := List.mem_map.mp hd
    exact Dn.str (m := 8) (ok s hs).2 (ok s hs).1) (by rw [List.length_map]; exact l8)).mono (by omega) (by omega)
  refine (Dn.tup (k := 1) (n := 696) (m := 3) (fun d hd => ?_) (by simp)).mono (by omega) (by omega)
  simp only [List.mem_cons, List.not_mem_nil, or_false] at hd
  rcases hd with rfl | rfl | rfl
  · exact (Dn.int (by omega)).mono (by omega) (by omega)
  · exact (Dn.int (by omega)).mono (by omega) (by omega)
  · exact (Dn.tup (k := 0) (n := 82) (m := 8) (fun d hd => by
      obtain ⟨s, hs, rfl⟩ := List.mem_map.mp hd
      exact Dn.str (m := 8) (ok s hs).2 (ok s hs).1) (by rw [List.length_map]; exact l8)).mono (by omega) (by omega)
theorem pile_dn {R C : Nat} {hs : List Sht} (hR : R ≤ 8) (hC : C ≤ 8) (h10 : hs.length ≤ 10) (ok : ∀ h ∈ hs, h.ok) : Dn 4 100000 (pileD R C hs) := by
  refine (Dn.tup (k := 3) (n := 21100) (m := 3) (fun d hd => ?_) (by simp)).mono (by omega) (by omega)
  simp only [List.mem_cons, List.not_mem_nil, or_false] at hd
  rcases hd with rfl | rfl | rfl
  · exact (Dn.int (by omega)).mono (by omega) (by omega)
  · exact (Dn.int (by omega)).mono (by omega) (by omega)
  · exact (Dn.tup (k := 2) (n := 2100) (m := 10) (fun d hd => by
      obtain ⟨s, hs, rfl⟩ := List.mem_map.mp hd
      exact sheet_dn (ok s hs)) (by rw [List.length_map]; exact h10)).mono (by omega) (by omega)
theorem repr_pile {R C : Nat} {hs : List Sht} (hR : R ≤ 8) (hC : C ≤ 8) (h10 : hs.length ≤ 10) (ok : ∀ h ∈ hs, h.ok) : ∃ t, reprD [pileD R C hs] = some (.str t) ∧ okS t = true := by
  have q := pile_dn hR hC h10 ok
  refine ⟨(pileD R C hs).shown, ?_, q.ok⟩
  have h1 := q.sh
  have h2 := q.dep
  have h3 := q.len
  have h4 := PyData.hasDict_of_canLay _ q.lay
  unfold pileD at h1 h2 h3 h4
  unfold pileD reprD
  simp only []
  rw [h1, h4, decide_eq_true (show (PyData.tuple [.int R, .int C, .tuple (hs.map Sht.d)]).depth ≤ 100 by omega), decide_eq_true (show (PyData.tuple [.int R, .int C, .tuple (hs.map Sht.d)]).shown.length ≤ LIM by unfold LIM; omega)]
  rfl
/-! the same -/
inductive SmD : Nat → D → Prop
  | int (n : Nat) (i : Int) : SmD n (.int i)
  | str (n : Nat) {x : Str} : okS x = true → SmD n (.str x)
  | tup (n : Nat) {ds : List D} : (∀ d ∈ ds, SmD n d) → ds.length ≤ LIM → SmD (n + 1) (.tuple ds)
  | lst (n : Nat) {ds : List D} : (∀ d ∈ ds, SmD n d) → ds.length ≤ LIM → SmD (n + 1) (.list ds)
theorem t_orF {a b : MT} {cs c1 c2 : List Cell} {v : Bool} (h : a cs = some (false, c1)) (g : b c1 = some (v, c2)) : mOr a b cs = some (v, c2) := by
  unfold mOr
  rw [h]
  exact g
theorem t_nt {a : MT} {cs c1 : List Cell} {v : Bool} (h : a cs = some (v, c1)) : mNot a cs = some (!v, c1) := by
  unfold mNot
  rw [h]
theorem v_is {Ts : List String} {m : M} {cs c1 : List Cell} {d : D} {b : Bool} (h : m cs = some (.fz d, c1)) (e : (Ts.any fun T => isTy T d) = b) : mIs Ts m cs = some (.fz (.bool b), c1) := by
  unfold mIs
  rw [h]
  simp only []
  rw [e]
theorem v_andT {a b : M} {cs c1 : List Cell} {r : Option (Cell × List Cell)} (h : a cs = some (.fz (.bool true), c1)) (g : b c1 = r) : mAndV a b cs = r := by
  unfold mAndV
  rw [h]
  exact g
theorem eq_self {d : D} (h : SeqAt.shaped d = true) : eqD d d = some (.bool true) := by
  unfold eqD
  rw [h]
  show some (PyData.bool (PyData.eqv d d)) = _
  rw [SeqAt.eqv_refl d (canLay_shaped h)]
theorem ne_self {d : D} (h : SeqAt.shaped d = true) : neD d d = some (.bool false) := by
  unfold neD
  rw [h]
  show some (PyData.bool (!PyData.eqv d d)) = _
  rw [SeqAt.eqv_refl d (canLay_shaped h)]
  rfl
theorem sh_bool (b : Bool) : SeqAt.shaped (.bool b) = true := rfl
theorem sh_str {x : Str} (h : okS x = true) : SeqAt.shaped (.str x) = true := by
  show (PyData.strOk _ && decide (0 ≤ 64)) = true
  rw [okS_strOk h]
  rfl
theorem zip_same : ∀ {ds : List D} {i : Nat} {e : D}, (zipT ds ds)[i]? = some e → ∃ x ∈ ds, e = .tuple [x, x]
  | [], _, _, h => by simp [zipT] at h
  | d :: ds, 0, e, h => by
    simp [zipT] at h
    exact ⟨d, List.mem_cons_self, h.symm⟩
  | d :: ds, i + 1, e, h => by
    simp only [zipT, List.getElem?_cons_succ] at h
    obtain ⟨x, hx, q⟩ := zip_same h
    exact ⟨x, List.mem_cons_of_mem _ hx, q⟩
theorem zip_len : ∀ ds : List D, (zipT ds ds).length = ds.length
  | [] => rfl
  | d :: ds => by simp [zipT, zip_len ds]
theorem seq_same {f : List D → Option Cell} {d : D} {ds : List D} (hs : seqOf d = some ds) (hf : ∀ x ∈ ds, f [x, x] = some (.fz (.bool true))) (hl : ds.length ≤ LIM) (h1 : isNoneD d = false) (h2 : (["bool"].any fun T => isTy T d) = false) (h3 : (["int", "str"].any fun T => isTy T d) = false)
    (h4 : lenD [d] = some (.int ds.length)) : m_l_same f [.fz d, .fz d, .un, .un] = some (.rt (.fz (.bool true)) [.fz d, .fz d, .un, .un]) := by
  have isn : ∀ m, m [.fz d, .fz d, .un, .un] = some (.fz d, [.fz d, .fz d, .un, .un]) → mTest (mOp isD m (mC .none)) [.fz d, .fz d, .un, .un] = some (false, [.fz d, .fz d, .un, .un]) := fun m hm => t_tst (v_op hm rfl (by rw [← h1]; rfl))
  unfold m_l_same
  refine r_seq (s_ifF (t_orF (isn _ rfl) (isn _ rfl)) rfl) ?_
  refine r_seq (s_ifF (t_orF (t_tst (v_is rfl h2)) (t_tst (v_is rfl h2))) rfl) ?_
  refine r_seq (s_ifF (t_tst (v_is rfl h3)) rfl) ?_
  refine r_seq (s_ifF (t_orF (t_tst (v_op (v_is rfl rfl) (v_is rfl rfl) (ne_self (sh_bool _)))) (t_tst (v_op (v_is rfl rfl) (v_is rfl rfl) (ne_self (sh_bool _))))) rfl) ?_
  refine r_seq (s_ifF (t_tst (v_op (v_call (v_cons rfl v_nil) h4) (v_call (v_cons rfl v_nil) h4) (ne_self rfl))) rfl) ?_
  obtain ⟨ys, cs', e, p⟩ := lcGo_ind (vs := [2, 3]) (mg := (mgTup 2 (mgCons (mgName 2) (mgCons (mgName 3) mgNil)))) (me := (mFrz (mCallP f (mCons (mVar 2) (mCons (mVar 3) mNil)))))
    (fun k acc cs => (∃ y2 y3, cs = [.fz d, .fz d, y2, y3]) ∧ ∀ z ∈ acc, z = .bool true) (zipT ds ds) [.fz d, .fz d, .un, .un] 0 [] ⟨⟨.un, .un, rfl⟩, fun _ h => by cases h⟩
    (fun i e acc cs he hi => by
      obtain ⟨⟨y2, y3, rfl⟩, ha⟩ := hi
      obtain ⟨x, hx, rfl⟩ := zip_same he
      refine ⟨_, .bool true, _, rfl, v_frzF (v_callP (v_cons rfl (v_cons rfl v_nil)) (hf x hx)), ⟨_, _, rfl⟩, fun z hz => ?_⟩
      rcases List.mem_append.mp hz with hz | hz
      · exact ha z hz
      · exact List.mem_singleton.mp hz)
  obtain ⟨⟨y2, y3, rfl⟩, hy⟩ := p
  have hy : ∀ z ∈ ys, z = PyData.bool true := by simpa using hy
  have zi : iZpM (mCons (mVar 0) (mCons (mVar 1) mNil)) [.fz d, .fz d, .un, .un] = some (zipT ds ds, [.fz d, .fz d, .un, .un]) := by
    unfold iZpM
    rw [v_cons (x := d) (c1 := [.fz d, .fz d, .un, .un]) rfl (v_cons (x := d) (c1 := [.fz d, .fz d, .un, .un]) rfl v_nil)]
    simp only []
    rw [hs]
  refine s_ret (v_op rfl (lcO_run zi (by rw [zip_len]; exact hl) e) ?_)
  have la : PyData.canLayAll0 ys = true := lay_all fun z hz => by rw [hy z hz]; rfl
  have an : ys.any (fun y => PyData.eqv y (.bool false)) = false := by
    rw [List.any_eq_false]
    intro z hz
    rw [hy z hz]
    decide
  show (Option.map _ (if (true && PyData.canLayAll0 ys) = true then some (ys.any fun y => PyData.eqv y (.bool false)) else none)) = _
  rw [la, an]
  rfl
theorem same_run : ∀ {n : Nat} {d : D}, SmD n d → f_l_same (n + 1) [d, d] = some (.fz (.bool true))
  | n, _, .int _ i => by
    refine fnP_run (cs' := [.fz (.int i), .fz (.int i), .un, .un]) ?_
    show m_l_same _ [.fz (.int i), .fz (.int i), .un, .un] = _
    have b0 : (["bool"].any fun T => isTy T (.int i)) = false   := by simp [isTy, tyName]
    have b1 : (["int", "str"].any fun T => isTy T (.int i)) = true   := by simp [isTy, tyName]
    have b2 : (["int"].any fun T => isTy T (.int i)) = true := by simp [isTy, tyName]
    unfold m_l_same
    refine r_seq (s_ifF (t_orF (t_tst (v_op rfl rfl rfl)) (t_tst (v_op rfl rfl rfl))) rfl) ?_
    refine r_seq (s_ifF (t_orF (t_tst (v_is rfl b0)) (t_tst (v_is rfl b0))) rfl) ?_
    refine r_seqR (s_ifT (t_tst (v_is rfl b1)) (r_seq (s_ifF (t_tst (v_op (v_is rfl b2) (v_is rfl b2) (ne_self (sh_bool _)))) rfl) (s_ret (v_andT (v_is rfl b1) (v_op rfl rfl (eq_self rfl))))))
  | n, _, .str _ (x := x) h => by
    refine fnP_run (cs' := [.fz (.str x), .fz (.str x), .un, .un]) ?_
    show m_l_same _ [.fz (.str x), .fz (.str x), .un, .un] = _
    have b0 : (["bool"].any fun T => isTy T (.str x)) = false   := by simp [isTy, tyName]
    have b1 : (["int", "str"].any fun T => isTy T (.str x)) = true   := by simp [isTy, tyName]
    have b2 : (["int"].any fun T => isTy T (.str x)) = false := by simp [isTy, tyName]
    unfold m_l_same
    refine r_seq (s_ifF (t_orF (t_tst (v_op rfl rfl rfl)) (t_tst (v_op rfl rfl rfl))) rfl) ?_
    refine r_seq (s_ifF (t_orF (t_tst (v_is rfl b0)) (t_tst (v_is rfl b0))) rfl) ?_
    refine r_seqR (s_ifT (t_tst (v_is rfl b1)) (r_seq (s_ifF (t_tst (v_op (v_is rfl b2) (v_is rfl b2) (ne_self (sh_bool _)))) rfl) (s_ret (v_andT (v_is rfl b1) (v_op rfl rfl (eq_self (sh_str h)))))))
  | n + 1, _, .tup _ (ds := ds) h hl => by
    refine fnP_run (cs' := [.fz (.tuple ds), .fz (.tuple ds), .un, .un]) ?_
    exact seq_same rfl (fun x hx => same_run (h x hx)) hl rfl (by simp [isTy, tyName]) (by simp [isTy, tyName]) rfl
  | n + 1, _, .lst _ (ds := ds) h hl => by
    refine fnP_run (cs' := [.fz (.list ds), .fz (.list ds), .un, .un]) ?_
    exact seq_same rfl (fun x hx => same_run (h x hx)) hl rfl (by simp [isTy, tyName]) (by simp [isTy, tyName]) rfl
end Mi

/-! P13: what the law asks of the cover. -/
namespace Mi
open PySem PySem.Spec PyProof.Rows L2

def ksT (t : Tb) : List D := t.map fun e => kd e.1
theorem tE_keys (t : Tb) : (tE t).map (·.1) = ksT t := by
  unfold tE eE ksT
  rw [List.map_map]
  rfl
theorem kd_alike (a b : Spot) : PySem.W.alike (kd a) (kd b) = true := rfl
theorem kd_depth (a : Spot) : (kd a).depth = 1 := rfl
theorem kd_lay (a : Spot) : PyData.canLay0 (kd a) = true := rfl
theorem sort_ok {N : Nat} {t : Tb} (g : GT N t) (hN : N < 10000) : sortOk (ksT t) = true := by
  have m : ∀ d ∈ ksT t, ∃ a, d = kd a := fun d hd => by
    obtain ⟨e, _, rfl⟩ := List.mem_map.mp hd
    exact ⟨_, rfl⟩
  unfold sortOk
  simp only [Bool.and_eq_true, Bool.or_eq_true, decide_eq_true_eq]
  refine ⟨⟨⟨?_, .inl ?_⟩, ?_⟩, ?_⟩
  · unfold alikeB
    rw [List.all_eq_true]
    intro d hd
    rw [List.all_eq_true]
    intro e he
    obtain ⟨a, rfl⟩ := m d hd
    obtain ⟨b, rfl⟩ := m e he
    exact kd_alike a b
  · rw [List.all_eq_true]
    intro d hd
    obtain ⟨a, rfl⟩ := m d hd
    rfl
  · unfold ksT
    rw [List.length_map]
    have := g.len
    unfold LIM
    omega
  · rw [List.all_eq_true]
    intro d hd
    obtain ⟨a, rfl⟩ := m d hd
    rw [decide_eq_true_eq, kd_depth]
    omega
theorem sorted_run {N : Nat} {t : Tb} (g : GT N t) (hN : N < 10000) : sortedD [.dict (tE t)] = some (.list (sortL (ksT t))) := by
  show (if sortOk ((tE t).map (·.1)) = true then _ else _) = _
  rw [tE_keys, sort_ok g hN]
  rfl
theorem sort_mem {t : Tb} {d : D} (h : d ∈ sortL (ksT t)) : ∃ k ∈ t.map (·.1), d = kd k := by
  unfold sortL at h
  rw [List.mem_mergeSort] at h
  obtain ⟨e, he, rfl⟩ := List.mem_map.mp h
  exact ⟨e.1, List.mem_map.mpr ⟨e, he, rfl⟩, rfl⟩
theorem sort_len (t : Tb) : (sortL (ksT t)).length = t.length := by
  unfold sortL ksT
  rw [List.length_mergeSort, List.length_map]
theorem sort_shaped (t : Tb) : SeqAt.shaped (.list (sortL (ksT t))) = true := by
  unfold SeqAt.shaped
  rw [Bool.and_eq_true, decide_eq_true_eq]
  refine ⟨lay_all fun d hd => ?_, ?_⟩
  · obtain ⟨k, _, rfl⟩ := sort_mem hd
    rfl
  · show PyData.depthAll _ + 1 ≤ 64
    have := dep_all (k := 1) (ds := sortL (ksT t)) fun d hd => by
      obtain ⟨k, _, rfl⟩ := sort_mem hd
      exact Nat.le_refl _
    omega
theorem lk_mem {k : Spot} : ∀ {t : Tb}, k ∈ t.map (·.1) → (k, lkT t k) ∈ t
  | [], h => by cases h
  | e :: r, h => by
    unfold lkT
    by_cases q : e.1 = k
    · rw [if_pos q, ← q]
      exact List.mem_cons_self
    · rw [if_neg q]
      refine List.mem_cons_of_mem _ (lk_mem ?_)
      rcases List.mem_cons.mp h with z | z
      · exact absurd z.symm q
      · exact z
theorem ix_tE {t : Tb} {k : Spot} (h : k ∈ t.map (·.1)) : ixD (.dict (tE t)) (kd k) = some (.list (lkT t k)) := by
  show (match kOf (kd k) with
    | some q => findD (tE t) q
    | none => none) = _
  rw [kOf_kd]
  exact find_yes h
def lookD (t : Tb) (d : D) : D := (ixD (.dict (tE t)) d).getD .none
theorem vals_run {N i : Nat} {t : Tb} (g : GT N t) (hN : N < 10000) {c0 c1 c2 c3 c4 c5 c6 c7 : Cell} (hv : ∀ y, mVar i [c0, c1, c2, c3, c4, c5, c6, c7, y] = some (.fz (.dict (tE t)), [c0, c1, c2, c3, c4, c5, c6, c7, y])) :
    mFrzP (mLcO [8] (iSeqM (mCall sortedD (mCons (mVar i) mNil))) (mgName 8) mYes (mOp ixD (mVar i) (mVar 8))) [c0, c1, c2, c3, c4, c5, c6, c7, .un] = some (.fz (.list ((sortL (ksT t)).map (lookD t))), [c0, c1, c2, c3, c4, c5, c6, c7, .un]) := by
  obtain ⟨ys, cs', e, ⟨y, rfl⟩, p⟩ := lcGo_ind (vs := [8]) (mg := mgName 8) (me := mOp ixD (mVar i) (mVar 8))
    (fun k acc cs => (∃ y, cs = [c0, c1, c2, c3, c4, c5, c6, c7, y]) ∧ acc = ((sortL (ksT t)).take k).map (lookD t)) (sortL (ksT t)) [c0, c1, c2, c3, c4, c5, c6, c7, .un] 0 [] ⟨⟨.un, rfl⟩, rfl⟩
    (fun j d acc cs hd hi => by
      obtain ⟨⟨y, rfl⟩, rfl⟩ := hi
      obtain ⟨k, hk, rfl⟩ := sort_mem (List.mem_of_getElem? hd)
      have q := ix_tE hk
      refine ⟨[c0, c1, c2, c3, c4, c5, c6, c7, .fz (kd k)], lookD t (kd k), _, rfl, v_op (hv _) rfl ?_, ⟨_, rfl⟩, ?_⟩
      · unfold lookD
        rw [q]
        rfl
      · rw [Nat.zero_add, List.take_succ, hd, List.map_append]
        rfl)
  have p : ys = (sortL (ksT t)).map (lookD t) := by
    rw [List.nil_append, Nat.zero_add, List.take_length] at p
    exact p
  subst p
  refine lcO_run (c1 := [c0, c1, c2, c3, c4, c5, c6, c7, .un]) ?_ (by rw [sort_len]; have := g.len; unfold LIM; omega) e
  unfold iSeqM
  rw [v_call (v_cons (hv _) v_nil) (sorted_run g hN)]
  rfl
theorem Px.sm {x : D} (h : Px x) : SmD 5 x := by
  obtain ⟨n, c, h1, h2, rfl⟩ := h
  refine .tup 4 (fun d hd => ?_) (show (2 : Nat) ≤ LIM by decide)
  simp only [List.mem_cons, List.not_mem_nil, or_false] at hd
  rcases hd with rfl | rfl
  · exact .int _ _
  · exact .str _ (by rw [okS_iff]; intro e he; simp at he; omega)
theorem vals_sm {N : Nat} {t : Tb} (g : GT N t) (hN : N < 10000) : SmD 7 (.list ((sortL (ksT t)).map (lookD t))) := by
  refine .lst 6 (fun d hd => ?_) (by rw [List.length_map, sort_len]; have := g.len; unfold LIM; omega)
  obtain ⟨z, hz, rfl⟩ := List.mem_map.mp hd
  obtain ⟨k, hk, rfl⟩ := sort_mem hz
  have q := ix_tE hk
  have : lookD t (kd k) = .list (lkT t k) := by
    unfold lookD
    rw [q]
    rfl
  rw [this]
  obtain ⟨_, _, h3, h4⟩ := g.el _ (lk_mem hk)
  exact .lst 5 (fun x hx => (h4 x hx).sm) (by unfold LIM; simp at h3; omega)
/-! the callers' appends -/
def noneT (t : Tb) : Tb := t.map fun e => (e.1, e.2 ++ [.none])
theorem addT_mid {k : Spot} {l : List D} {x : D} {b : Tb} : ∀ {a : Tb}, k ∉ a.map (·.1) → addT (a ++ (k, l) :: b) k x = a ++ (k, l ++ [x]) :: b
  | [], _ => if_pos rfl
  | e :: a, h => by
    simp only [List.map_cons, List.mem_cons, not_or] at h
    have : addT (e :: (a ++ (k, l) :: b)) k x = e :: addT (a ++ (k, l) :: b) k x := if_neg fun z => h.1 z.symm
    show addT (e :: (a ++ (k, l) :: b)) k x = _
    rw [this, addT_mid h.2]
    rfl
theorem app_run : ∀ (b a : Tb), ((a ++ b).map (·.1)).Nodup → (∀ e ∈ b, e.2.length < LIM) → appGo (ksT b) (tE (a ++ b)) = some (tE (a ++ noneT b))
  | [], a, _, _ => by
    show some _ = _
    rfl
  | e :: b, a, nd, hl => by
    have hk : e.1 ∈ ((a ++ e :: b).map (·.1)) := List.mem_map.mpr ⟨e, by simp, rfl⟩
    have ha : e.1 ∉ a.map (·.1) := fun z => by
      rw [List.map_append, List.nodup_append] at nd
      exact nd.2.2 _ z _ (by simp) rfl
    have lk : findD (tE (a ++ e :: b)) (qk e.1) = some (.list e.2) := by
      rw [find_yes hk]
      have : ∀ {a : Tb}, e.1 ∉ a.map (·.1) → lkT (a ++ e :: b) e.1 = e.2 := by
        intro a
        induction a with
        | nil => intro _; exact if_pos rfl
        | cons z a ih =>
          intro h
          simp only [List.map_cons, List.mem_cons, not_or] at h
          show (if z.1 = e.1 then _ else _) = _
          rw [if_neg fun q => h.1 q.symm]
          exact ih h.2
      rw [this ha]
    have cn : cntD (tE (a ++ e :: b)) (qk e.1) ≤ 1 := cnt_le _ nd
    have ap : appAt (tE (a ++ e :: b)) (qk e.1) .none = tE ((a ++ [(e.1, e.2 ++ [.none])]) ++ b) := by
      rw [appT nd hk, addT_mid ha]
      simp
    show (match kOf (kd e.1) with
      | some (.inr k) => if cntD (tE (a ++ e :: b)) (.inr k) ≤ 1 ∧ lenOk (findD (tE (a ++ e :: b)) (.inr k)) = true then appGo (ksT b) (appAt (tE (a ++ e :: b)) (.inr k) .none) else none
      | _ => none) = _
    have go : (if cntD (tE (a ++ e :: b)) (qk e.1) ≤ 1 ∧ lenOk (findD (tE (a ++ e :: b)) (qk e.1)) = true then appGo (ksT b) (appAt (tE (a ++ e :: b)) (qk e.1) .none) else none) = some (tE (a ++ noneT (e :: b))) := by
      rw [if_pos ⟨cn, by rw [lk]; exact decide_eq_true (hl e List.mem_cons_self)⟩, ap]
      rw [app_run b (a ++ [(e.1, e.2 ++ [PyData.none])]) (by
        have : ((a ++ [(e.1, e.2 ++ [PyData.none])]) ++ b).map (·.1) = (a ++ e :: b).map (·.1) := by simp
        rw [this]
        exact nd) (fun z hz => hl z (List.mem_cons_of_mem _ hz))]
      simp [noneT]
    exact go
theorem none_keys (t : Tb) : (noneT t).map (·.1) = t.map (·.1) := by
  unfold noneT
  rw [List.map_map]
  rfl
theorem none_ks (t : Tb) : ksT (noneT t) = ksT t := by
  unfold noneT ksT
  rw [List.map_map]
  rfl
theorem count_one {l : List D} (h : ∀ x ∈ l, Px x) : countD (.list (l ++ [.none])) [.none] = some (.int 1) := by
  have s : SeqAt.shaped (.list (l ++ [.none])) = true := by
    unfold SeqAt.shaped
    rw [Bool.and_eq_true, decide_eq_true_eq]
    refine ⟨lay_all fun d hd => ?_, ?_⟩
    · rcases List.mem_append.mp hd with hd | hd
      · obtain ⟨n, c, h1, h2, rfl⟩ := h d hd
        have : PyData.strOk ⟨#[c]⟩ = true := okS_strOk (by rw [okS_iff]; intro e he; simp at he; omega)
        simp only [PyData.canLay0, PyData.canLayAll0, this]
        rfl
      · rw [List.mem_singleton.mp hd]
        rfl
    · show PyData.depthAll _ + 1 ≤ 64
      have := dep_all (k := 1) (ds := l ++ [.none]) fun d hd => by
        rcases List.mem_append.mp hd with hd | hd
        · obtain ⟨n, c, h1, h2, rfl⟩ := h d hd
          exact Nat.le_refl _
        · rw [List.mem_singleton.mp hd]
          exact Nat.zero_le _
      omega
  have c0 : l.countP (fun e => PyData.eqv e .none) = 0 := by
    rw [List.countP_eq_zero]
    intro x hx
    obtain ⟨n, c, h1, h2, rfl⟩ := h x hx
    simp [PyData.eqv]
  show (if (SeqAt.shaped _ && SeqAt.shaped .none) = true then some (PyData.int ((l ++ [PyData.none]).countP fun e => PyData.eqv e .none)) else none) = _
  rw [s, List.countP_append, c0]
  rfl
theorem lcGo_no {vs : List Nat} {mg : MG} {mt : MT} {me : M} (I : List Cell → Prop) : ∀ (ds : List D) (cs : List Cell), I cs → (∀ d ∈ ds, ∀ cs, I cs → ∃ c1 c2, mg d (wipeC cs vs) = some c1 ∧ mt c1 = some (false, c2) ∧ I c2) → ∃ cs', lcGo vs mg mt me ds cs = some ([], cs') ∧ I cs'
  | [], cs, h, _ => ⟨cs, rfl, h⟩
  | d :: ds, cs, h, step => by
    obtain ⟨c1, c2, e1, e2, h2⟩ := step d List.mem_cons_self cs h
    obtain ⟨cs', e3, h3⟩ := lcGo_no I ds c2 h2 fun d' hd => step d' (List.mem_cons_of_mem _ hd)
    refine ⟨cs', ?_, h3⟩
    unfold lcGo
    rw [e1]
    simp only []
    rw [e2]
    exact e3
theorem counts_run {N : Nat} {t : Tb} (g : GT N t) (hN : N < 10000) {c0 c1 c2 c3 c4 c5 c6 : Cell} :
    mFrzP (mLcO [8] (iKyM (mVar 7)) (mgName 8) (mTest (mOp neD (mMeth countD (mOp ixD (mVar 7) (mVar 8)) (mCons (mC .none) mNil)) (mC (.int 1)))) (mVar 8)) [c0, c1, c2, c3, c4, c5, c6, .fz (.dict (tE (noneT t))), .un] = some (.fz (.list []), [c0, c1, c2, c3, c4, c5, c6, .fz (.dict (tE (noneT t))), .un]) := by
  obtain ⟨cs', e, ⟨y, rfl⟩⟩ := lcGo_no (vs := [8]) (mg := mgName 8) (mt := (mTest (mOp neD (mMeth countD (mOp ixD (mVar 7) (mVar 8)) (mCons (mC .none) mNil)) (mC (.int 1))))) (me := mVar 8)
    (fun cs => ∃ y, cs = [c0, c1, c2, c3, c4, c5, c6, .fz (.dict (tE (noneT t))), y]) (ksT t) [c0, c1, c2, c3, c4, c5, c6, .fz (.dict (tE (noneT t))), .un] ⟨.un, rfl⟩
    (fun d hd cs hi => by
      obtain ⟨y, rfl⟩ := hi
      obtain ⟨e, he, rfl⟩ := List.mem_map.mp hd
      have hk : e.1 ∈ (noneT t).map (·.1) := by
        rw [none_keys]
        exact List.mem_map.mpr ⟨e, he, rfl⟩
      have q := ix_tE hk
      obtain ⟨z, hz, ez⟩ := List.mem_map.mp (lk_mem hk)
      have ez2 : z.2 ++ [.none] = lkT (noneT t) e.1 := congrArg Prod.snd ez
      rw [← ez2] at q
      refine ⟨[c0, c1, c2, c3, c4, c5, c6, .fz (.dict (tE (noneT t))), .fz (kd e.1)], _, rfl, t_tst (v_op (v_meth (v_op rfl rfl q) (v_cons rfl v_nil) (count_one (g.el z hz).2.2.2)) rfl (ne_self rfl)), _, rfl⟩)
  refine lcO_run (c1 := [c0, c1, c2, c3, c4, c5, c6, .fz (.dict (tE (noneT t))), .un]) (ds := ksT t) ?_ (by unfold ksT; rw [List.length_map]; have := g.len; unfold LIM; omega) e
  show some ((tE (noneT t)).map (·.1), _) = _
  rw [tE_keys, none_ks]
theorem keys_small {N : Nat} {t : Tb} (g : GT N t) : ((tE (noneT t)).all fun e => smallK e.1) = true := by
  rw [List.all_eq_true]
  intro e he
  obtain ⟨a, ha, rfl⟩ := List.mem_map.mp he
  obtain ⟨b, hb, rfl⟩ := List.mem_map.mp ha
  obtain ⟨h1, h2, _, _⟩ := g.el b hb
  show (decide ((0 : Int) ≤ b.1.1) && decide ((b.1.1 : Int) < 16) && decide ((0 : Int) ≤ b.1.2) && decide ((b.1.2 : Int) < 16)) = true
  simp only [Bool.and_eq_true, decide_eq_true_eq]
  omega
end Mi

/-! P14: the law runs to True. -/
namespace Mi
open PySem PySem.Spec PyProof.Rows L2

def ageB : MB := (mSeq (mSet 7 (mCallP f_p_covered (mCons (mVar 3) mNil)))
    (mSeq (mIfS (mVolT (mOr (mNot (mTest (mIs ["dict"] (mVar 7)))) (mOr (mTest (mOp neD (mCall sortedD (mCons (mVar 7) mNil)) (mCall sortedD (mCons (mVar 5) mNil)))) (mTest (mOp neD (mCall reprD (mCons (mVar 3) mNil)) (mVar 6)))))) (mRet (mC (.bool false))) mNx)
    (mSeq (mIfS (mVolT (mNot (mTest (mFrz (mCallP (f_l_same 8) (mCons (mFrzP (mLcO [8] (iSeqM (mCall sortedD (mCons (mVar 7) mNil))) (mgName 8) mYes (mOp ixD (mVar 7) (mVar 8)))) (mCons (mFrzP (mLcO [8] (iSeqM (mCall sortedD (mCons (mVar 5) mNil))) (mgName 8) mYes (mOp ixD (mVar 5) (mVar 8)))) mNil))))))) (mRet (mC (.bool false))) mNx)
    (mSeq (mAppAll 7 8)
    (mSeq (mIfS (mVolT (mTest (mOp neD (mFrzP (mLcO [8] (iKyM (mVar 7)) (mgName 8) (mTest (mOp neD (mMeth countD (mOp ixD (mVar 7) (mVar 8)) (mCons (mC .none) mNil)) (mC (.int 1)))) (mVar 8))) (mLst mNil)))) (mRet (mC (.bool false))) mNx)
    (mPutNone 7))))))
def lawC (c1 c2 c3 c4 c5 c6 c7 : Cell) : List Cell := [.un, c1, c2, c3, c4, c5, c6, c7, .un]
theorem age_run {ns : List Int} {i n : Int} {x2 x4 : D} {x7 : Cell} {R C : Nat} {hs : List Sht} {txt : Str} (h10 : hs.length ≤ 10) (ok : ∀ h ∈ hs, h.ok) (hr : reprD [pileD R C hs] = some (.str txt)) (ht : okS txt = true) :
    ageB (lawC (penC ns i n) (.fz x2) (.fz (pileD R C hs)) (.fz x4) (.fz (.dict (tE (covT 0 hs [])))) (.fz (.str txt)) x7) = some (.nx (lawC (penC ns i n) (.fz x2) (.fz (pileD R C hs)) (.fz x4) (.fz (.dict (tE (covT 0 hs [])))) (.fz (.str txt)) .un)) := by
  obtain ⟨_, g⟩ := l_covered_run (R := R) (C := C) h10 ok
  have pc := p_covered_run (R := R) (C := C) h10 ok
  generalize covT 0 hs [] = t at g pc ⊢
  have dct : ∀ es : List (D × D), (["dict"].any fun T => isTy T (.dict es)) = true := fun es => by simp [isTy, tyName]
  have fr : ∀ es, frz (lawC (penC ns i n) (.fz x2) (.fz (pileD R C hs)) (.fz x4) (.fz (.dict (tE t))) (.fz (.str txt)) (.ow (.dt (.l .fz)) (.dict es))) = lawC (.fz (.list [.list (ns.map .int), .int i, .int n])) (.fz x2) (.fz (pileD R C hs)) (.fz x4) (.fz (.dict (tE t))) (.fz (.str txt)) (.fz (.dict es)) := fun _ => rfl
  refine r_seq (c1 := lawC (penC ns i n) (.fz x2) (.fz (pileD R C hs)) (.fz x4) (.fz (.dict (tE t))) (.fz (.str txt)) (.ow (.dt (.l .fz)) (.dict (tE t)))) (s_set (c1 := lawC (penC ns i n) (.fz x2) (.fz (pileD R C hs)) (.fz x4) (.fz (.dict (tE t))) (.fz (.str txt)) x7) (v_callP (v_cons rfl v_nil) pc) (by simp [lawC])) ?_
  refine r_seq (s_ifF (t_vol' (cs' := lawC (.fz (.list [.list (ns.map .int), .int i, .int n])) (.fz x2) (.fz (pileD R C hs)) (.fz x4) (.fz (.dict (tE t))) (.fz (.str txt)) (.fz (.dict (tE t)))) (by
    rw [fr]
    exact t_orF (t_nt (v := true) (t_tst (v_is rfl (dct _)))) (t_orF (t_tst (v_op (v_call (v_cons rfl v_nil) (sorted_run g (by omega))) (v_call (v_cons rfl v_nil) (sorted_run g (by omega))) (ne_self (sort_shaped t)))) (t_tst (v_op (v_call (v_cons rfl v_nil) hr) rfl (ne_self (sh_str ht))))))) rfl) ?_
  refine r_seq (s_ifF (t_vol' (cs' := lawC (.fz (.list [.list (ns.map .int), .int i, .int n])) (.fz x2) (.fz (pileD R C hs)) (.fz x4) (.fz (.dict (tE t))) (.fz (.str txt)) (.fz (.dict (tE t)))) (by
    rw [fr]
    exact t_nt (v := true) (t_tst (v_frzF (v_callP (v_cons (vals_run g (by omega) (fun _ => rfl)) (v_cons (vals_run g (by omega) (fun _ => rfl)) v_nil)) (same_run (vals_sm g (by omega)))))))) rfl) ?_
  have ap : appGo ((tE t).map (·.1)) (tE t) = some (tE (noneT t)) := by
    rw [tE_keys]
    exact app_run t [] g.nd fun e he => by
      have := (g.el e he).2.2.1
      unfold LIM
      omega
  refine r_seq (c1 := lawC (penC ns i n) (.fz x2) (.fz (pileD R C hs)) (.fz x4) (.fz (.dict (tE t))) (.fz (.str txt)) (.ow (.dt (.l .fz)) (.dict (tE (noneT t))))) (by
    show (if 7 ≠ 8 ∧ 8 < 9 then match appGo ((tE t).map (·.1)) (tE t) with
      | some es' => some (Fl.nx (((lawC (penC ns i n) (.fz x2) (.fz (pileD R C hs)) (.fz x4) (.fz (.dict (tE t))) (.fz (.str txt)) (.ow (.dt (.l .fz)) (.dict (tE t)))).set 8 .un).set 7 (.ow (.dt (.l .fz)) (.dict es'))))
      | none => none
      else none) = _
    rw [if_pos ⟨by omega, by omega⟩, ap]
    rfl) ?_
  refine r_seq (s_ifF (t_vol' (cs' := lawC (.fz (.list [.list (ns.map .int), .int i, .int n])) (.fz x2) (.fz (pileD R C hs)) (.fz x4) (.fz (.dict (tE t))) (.fz (.str txt)) (.fz (.dict (tE (noneT t))))) (by
    rw [fr]
    exact t_tst (v_op (counts_run g (by omega)) (v_lst v_nil (Nat.zero_le _)) (ne_self rfl)))) rfl) ?_
  show (if (tE (noneT t)).length < LIM ∧ ((tE (noneT t)).all fun e => smallK e.1) = true then some (Fl.nx _) else none) = _
  have gl := g.len
  rw [if_pos ⟨by
    rw [tE_len]
    unfold noneT
    rw [List.length_map]
    unfold LIM
    omega, keys_small g⟩]
  rfl
theorem r_callQ1 {g : Cell → List D → Option (Cell × Cell)} {ma : MA} {ns : List Int} {i n : Int} {c0 c0' : Cell} {rest rest' : List Cell} {s' : Sh} {d' : D} {ds : List D} {c pc : Cell} (h1 : ma (c0 :: penC ns i n :: rest) = some (ds, c0' :: .ow s' d' :: rest')) (h3 : g (.ow s' d') ds = some (c, pc)) :
    mCallQ g 1 ma (c0 :: penC ns i n :: rest) = some (c, c0' :: pc :: rest') := callQ_run (c1 := c0' :: .ow s' d' :: rest') rfl h1 rfl h3
def turnB : MB := (mSeq (mSet 3 (mCallQ f_l_draw_pile 1 (mCons (mC (.int 10)) (mCons (mCallQ f_l_one_of 1 (mCons (mLst (mCons (mC (.int 2)) (mCons (mC (.int 4)) (mCons (mC (.int 8)) mNil)))) mNil)) mNil))))
    (mSeq (mPar [5, 6] (acCons (mFrz (mCallP f_l_covered (mCons (mVar 3) mNil))) (acCons (mCall reprD (mCons (mVar 3) mNil)) acNil)))
    (mFor (iRg1M (mCons (mC (.int 2)) mNil)) (mgName 4) ageB)))
theorem turn_run {b : Int} {pn : Cell} {x2 : D} {x3 x4 x5 x6 x7 : Cell} (hp : Pen b pn) (hb : b < 400000) :
    ∃ pn' y3 y4 y5 y6 y7, turnB (lawC pn (.fz x2) x3 x4 x5 x6 x7) = some (.nx (lawC pn' (.fz x2) y3 y4 y5 y6 y7)) ∧ Pen (b + 1600) pn' := by
  obtain ⟨d, c1, e1, hd, p1⟩ := one_of_run hp (by omega) (ds := [.int 2, .int 4, .int 8]) (by simp) (by simp)
  obtain ⟨L, rfl, L0, L8⟩ : ∃ L : Nat, d = .int L ∧ 1 ≤ L ∧ L ≤ 8 := by
    simp at hd
    rcases hd with rfl | rfl | rfl
    · exact ⟨2, rfl, by omega, by omega⟩
    · exact ⟨4, rfl, by omega, by omega⟩
    · exact ⟨8, rfl, by omega, by omega⟩
  obtain ⟨pd, c2, e2, hpd, p2⟩ := pile_run p1 (by omega) L0 L8
  obtain ⟨R, C, ds, rfl, hR, hC, h10, hds⟩ := hpd
  obtain ⟨hs, rfl, ok⟩ := shts_of hds
  rw [List.length_map] at h10
  obtain ⟨lc, _⟩ := l_covered_run (R := R) (C := C) h10 ok
  obtain ⟨txt, hr, ht⟩ := repr_pile hR hC h10 ok
  obtain ⟨_, _, _, rfl⟩ := hp.pen
  obtain ⟨_, _, _, rfl⟩ := p1.pen
  obtain ⟨ns2, i2, n2, rfl⟩ := p2.pen
  obtain ⟨cs', e5, y4, y7, rfl⟩ := forGo_ind (mg := mgName 4) (b := ageB)
    (fun k cs => ∃ y4 y7, cs = lawC (penC ns2 i2 n2) (.fz x2) (.fz (pileD R C hs)) y4 (.fz (.dict (tE (covT 0 hs [])))) (.fz (.str txt)) y7)
    (rangeL 0 2) (lawC (penC ns2 i2 n2) (.fz x2) (.fz (pileD R C hs)) x4 (.fz (.dict (tE (covT 0 hs [])))) (.fz (.str txt)) x7) 0 ⟨x4, x7, rfl⟩
    (fun i d cs hd hi => by
      obtain ⟨y4, y7, rfl⟩ := hi
      exact ⟨_, _, rfl, age_run (x4 := d) (x7 := y7) h10 ok hr ht, _, _, rfl⟩)
  refine ⟨_, .fz (pileD R C hs), y4, .fz (.dict (tE (covT 0 hs []))), .fz (.str txt), y7, ?_, p2.mono (by omega)⟩
  unfold turnB
  refine r_seq (c1 := lawC (penC ns2 i2 n2) (.fz x2) (.fz (pileD R C hs)) x4 x5 x6 x7) (s_set (c := .fz (pileD R C hs)) (c1 := lawC (penC ns2 i2 n2) (.fz x2) x3 x4 x5 x6 x7) (r_callQ1 (v_cons rfl (v_cons (r_callQ1 (v_cons (v_lst (v_cons rfl (v_cons rfl (v_cons rfl v_nil))) (by decide)) v_nil) e1) v_nil)) e2) (by simp [lawC])) ?_
  refine r_seq (c1 := lawC (penC ns2 i2 n2) (.fz x2) (.fz (pileD R C hs)) x4 (.fz (.dict (tE (covT 0 hs [])))) (.fz (.str txt)) x7) (s_par (is := [5, 6]) (l := [.fz (.dict (tE (covT 0 hs []))), .fz (.str txt)]) (c1 := lawC (penC ns2 i2 n2) (.fz x2) (.fz (pileD R C hs)) x4 x5 x6 x7) (ac_one (v_frzO (v_callP (v_cons rfl v_nil) lc)) (ac_one (v_call (v_cons rfl v_nil) hr) rfl)) ⟨rfl, rfl⟩) ?_
  exact s_for (i_rg1 (n := 2) (v_cons rfl v_nil) (by omega) (by omega)) e5
theorem law_runs {pn : Cell} (hp : Pen 100 pn) : ∃ cs', m_law (.un :: pn :: List.replicate 7 .un) = some (.rt (.fz (.bool true)) cs') := by
  obtain ⟨cs', e, pn', y2, y3, y4, y5, y6, y7, rfl, _⟩ := forGo_ind (mg := mgName 2) (b := turnB)
    (fun k cs => ∃ pn' y2 y3 y4 y5 y6 y7, cs = lawC pn' y2 y3 y4 y5 y6 y7 ∧ Pen (100 + 1600 * k) pn')
    (rangeL 0 6) (lawC pn .un .un .un .un .un .un) 0 ⟨pn, _, _, _, _, _, _, rfl, by simpa using hp⟩
    (fun i d cs hd hi => by
      obtain ⟨pn', y2, y3, y4, y5, y6, y7, rfl, p⟩ := hi
      obtain ⟨rfl, hin⟩ := rangeL_at hd
      obtain ⟨pn2, z3, z4, z5, z6, z7, e, q⟩ := turn_run (x2 := .int (0 + i)) (x3 := y3) (x4 := y4) (x5 := y5) (x6 := y6) (x7 := y7) p (by omega)
      exact ⟨_, _, rfl, e, pn2, _, _, _, _, _, _, rfl, q.mono (by omega)⟩)
  refine ⟨lawC pn' y2 y3 y4 y5 y6 y7, ?_⟩
  refine r_seq (s_for (c1 := lawC pn .un .un .un .un .un .un) (i_rg1 (n := 6) (v_cons rfl v_nil) (by omega) (by omega)) e) ?_
  rfl
/-! the pen opened -/
theorem op_loop : ∀ (xs ms : List Int) (j : Nat) (x2 x3 : Cell), (ms.length = 12 ∨ xs = []) → ∃ (ms' : List Int) (y2 y3 : Cell), forGo m_og m_ob (enumFrom j (xs.map PyData.int)) [.un, .ow (.l .fz) (.list (ms.map .int)), x2, x3] = some (.nx [.un, .ow (.l .fz) (.list (ms'.map .int)), y2, y3])
  | [], ms, j, x2, x3, _ => ⟨ms, x2, x3, rfl⟩
  | x :: xs, ms, j, x2, x3, h => by
    have h12 : ms.length = 12 := by
      rcases h with h | h
      · exact h
      · cases h
    have m0 : (0 : Int) ≤ (j : Int) % 12 := Int.emod_nonneg _ (by omega)
    have m1 : (j : Int) % 12 < 12 := Int.emod_lt_of_pos _ (by omega)
    obtain ⟨v, hv⟩ := ix_ints ms ((j : Int) % 12) m0 (by rw [h12]; exact m1)
    obtain ⟨ms', y2, y3, e⟩ := op_loop xs (ms.set ((j : Int) % 12).toNat (v + x)) (j + 1) (.fz (.int j)) (.fz (.int x)) (.inl (by rw [List.length_set]; exact h12))
    refine ⟨ms', y2, y3, forGo_cons (d := .tuple [.int (j : Int), .int x]) (c1 := [.un, .ow (.l .fz) (.list (ms.map .int)), .fz (.int j), .fz (.int x)]) rfl ?_ e⟩
    have md : ∀ l : List Cell, (mOp modD (mCall intD (mCons (mVar 2) mNil)) (mC (.int 12))) (.un :: l) = (mOp modD (mCall intD (mCons (mVar 2) mNil)) (mC (.int 12))) (.un :: l) := fun _ => rfl
    have fz : frz [.un, .ow (.l .fz) (.list (ms.map .int)), .fz (.int j), .fz (.int x)] = [.un, .fz (.list (ms.map .int)), .fz (.int j), .fz (.int x)] := rfl
    have mm : modD (.int (j : Int)) (.int 12) = some (.int ((j : Int) % 12)) := by simp [modD]
    refine s_store (s := .l .fz) (s' := .l .fz) (kd := .int ((j : Int) % 12)) (d0 := .list (ms.map .int)) (d := .list (ms.map .int)) (cv := .fz (.int (v + x))) (c1 := [.un, .ow (.l .fz) (.list (ms.map .int)), .fz (.int j), .fz (.int x)]) (c2 := [.un, .ow (.l .fz) (.list (ms.map .int)), .fz (.int j), .fz (.int x)]) (d' := .list ((ms.set ((j : Int) % 12).toNat (v + x)).map .int)) (v_vol (cs' := [.un, .fz (.list (ms.map .int)), .fz (.int j), .fz (.int x)]) (by
      rw [fz]
      exact v_op (v_op rfl (v_op (v_call (v_cons rfl v_nil) rfl) rfl mm) hv) rfl rfl) rfl) rfl (v_op (v_call (v_cons rfl v_nil) rfl) rfl mm) rfl ?_
    have ixn : ixN (ms.map PyData.int).length ((j : Int) % 12) = some ((j : Int) % 12).toNat := by
      unfold ixN
      rw [List.length_map, h12, if_pos m0, if_pos (show (j : Int) % 12 < ((12 : Nat) : Int) by omega)]
    show (match ixN (ms.map PyData.int).length ((j : Int) % 12), some (PyData.int (v + x)) with
      | some j, some d => some (PyData.list ((ms.map PyData.int).set j d))
      | _, _ => none) = _
    rw [ixn]
    show some (PyData.list ((ms.map PyData.int).set _ (PyData.int (v + x)))) = _
    rw [List.map_set]
theorem ints_of (ms : List Int) : intsOf (ms.map PyData.int) = some ms := by
  induction ms with
  | nil => rfl
  | cons a l ih => simp [intsOf, ih]
theorem law_true : ∀ ns : List Int, ns.length ≤ 63 → ∃ c cs', op ns = some c ∧ m_law (.un :: c :: List.replicate 7 .un) = some (.rt (.fz (.bool true)) cs') := by
  intro ns hn
  have hx : (cutI ns none (some 12)).length = 12 ∨ cutI ns (some 12) (some 63) = [] := by
    by_cases h : ns.length ≤ 12
    · refine .inr ?_
      unfold cutI HT.sIx
      simp
      omega
    · refine .inl ?_
      unfold cutI HT.sIx
      simp
      omega
  obtain ⟨ms', y2, y3, e⟩ := op_loop (cutI ns (some 12) (some 63)) (cutI ns none (some 12)) 0 .un .un hx
  have o : op ns = some (penC ms' 0 0) := by
    unfold op opGo
    rw [e]
    show (match m_or _ with
      | some (c, _) => some c
      | none => none) = _
    have : m_or [.un, .ow (.l .fz) (.list (ms'.map .int)), y2, y3] = some (penC ms' 0 0, [.un, .un, y2, y3]) := by
      show (match intsOf (ms'.map PyData.int) with
        | some _ => some (Cell.ow .pen (.list [.list (ms'.map .int), .int 0, .int 0]), _)
        | none => none) = _
      rw [ints_of]
      rfl
    rw [this]
  obtain ⟨cs', h⟩ := law_runs (pn := penC ms' 0 0) ⟨ms', 0, 0, rfl, by omega, by omega⟩
  exact ⟨_, cs', o, h⟩
end Mi

open PySem PySem.W PyProof.Rows
set_option maxHeartbeats 0 in
theorem PySem.Challenge.cw_laidsheets_k03_covered_cells_holds : PySem.Challenge.rw_laidsheets_k03_covered_cells.Holds := by
  w_on; o_law; k_head; (case hw => w_witness2)
  k_fill
  refine Mi.mi_walk (l := PySem.Challenge.rw_laidsheets_k03_covered_cells) (n := 63) (k := 10) (x := "script") rfl (by decide) rfl ⟨rfl, by decide, by decide⟩ rfl (fun w h Y => PySem.W.kIn_of Y) ?F
  case F =>
    intro w mg fa h KX G hmg
    refine' Mi.all_mk KX G hmg Mi.law_true ?n0 ?l0 ?c0 ?k0 ?n1 ?l1 ?c1 ?k1 ?n2 ?l2 ?c2 ?k2 ?n3 ?l3 ?c3 ?k3 ?n4 ?l4 ?c4 ?k4 ?n5 ?l5 ?c5 ?k5 ?n6 ?l6 ?c6 ?k6 ?n7 ?l7 ?c7 ?k7 ?n8 ?l8 ?c8 ?k8 ?n9 ?l9 ?c9 ?k9 ?n10 ?l10 ?c10 ?k10 ?n11 ?l11 ?c11 ?k11 ?z_bool ?z_dict ?z_enumerate ?z_int ?z_isinstance ?z_len ?z_list ?z_range ?z_repr ?z_sorted ?z_str ?z_tuple ?z_zip ?h_HOLE
    (case n0 => k_is); (case l0 => k_is); (case c0 => k_is); (case k0 => k_is); (case n1 => k_is); (case l1 => k_is); (case c1 => k_is); (case k1 => k_is); (case n2 => k_is); (case l2 => k_is); (case c2 => k_is); (case k2 => k_is); (case n3 => k_is); (case l3 => k_is); (case c3 => k_is); (case k3 => k_is); (case n4 => k_is); (case l4 => k_is); (case c4 => k_is); (case k4 => k_is); (case n5 => k_is); (case l5 => k_is); (case c5 => k_is); (case k5 => k_is); (case n6 => k_is); (case l6 => k_is); (case c6 => k_is); (case k6 => k_is); (case n7 => k_is); (case l7 => k_is); (case c7 => k_is); (case k7 => k_is); (case n8 => k_is); (case l8 => k_is); (case c8 => k_is); (case k8 => k_is); (case n9 => k_is); (case l9 => k_is); (case c9 => k_is); (case k9 => k_is); (case n10 => k_is); (case l10 => k_is); (case c10 => k_is); (case k10 => k_is); (case n11 => k_is); (case l11 => k_is); (case c11 => k_is); (case k11 => k_is); (case z_bool => k_is); (case z_dict => k_is); (case z_enumerate => k_is); (case z_int => k_is); (case z_isinstance => k_is); (case z_len => k_is); (case z_list => k_is); (case z_range => k_is); (case z_repr => k_is); (case z_sorted => k_is); (case z_str => k_is); (case z_tuple => k_is); (case z_zip => k_is); (case h_HOLE => k_is)

