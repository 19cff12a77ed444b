import PyProof.Rows.All
import HandS.ForMost
import HandS.ForExc
import HandS.Flow
import HandS.Style
import HandS.Conv
import HandS.TupAny
import HandS.Zip
import HandS.Walk
import HandS.More
import HandS.AnyAll
import HandS.Sort
import HandS.TupMul
import HandS.IsInst
import HandS.Deep
import HandS.Text
import HandS.SetFor
import HandS.Set
import HandS.SetKeys
import PyProof.Rows.SortShellAny
import HandS.Words
import KE.KDictZip
import HandS.EndTab
import KE.KNest
import HandS.HeadHook3
import PySem.Challenge.RW_blazonstold_k01_tinctures_and_hatchings
section
set_option Elab.async false
set_option linter.all false
set_option maxRecDepth 100000
set_option maxHeartbeats 1000000
namespace BZ
open PySem PySem.Spec PyProof.Rows L2

/-! ## data, slots, stores -/
inductive D where
  | non | bl (b : Bool) | int (i : Int) | str (x : Str)
  | tup (l : List D) | lst (l : List D) | dct (ks vs : List D)
  | kd (ks vs : List D) | scr (l : List D)
  | loc (n : Nat) | sl (i : Nat)
  deriving Inhabited
inductive S where
  | un | val (d : D) | own (d : D) | lent (d : D)
  deriving Inhabited
structure E where
  sl : List S
  st : List D
structure Exn where
  cls : String
  val : Option D
inductive R (α : Type) where
  | ok (a : α) (e : E)
  | ex (x : Exn) (e : E)
  | no
abbrev M (α : Type) := E → R α
@[inline] def M.pure {α : Type} (a : α) : M α := fun e => .ok a e
@[inline] def M.bind {α β : Type} (m : M α) (f : α → M β) : M β := fun e => match m e with
  | .ok a e' => f a e'
  | .ex x e' => .ex x e'
  | .no => .no
instance : Monad M where
  pure := M.pure
  bind := M.bind
/-- a value that may be stored: no reference to a slot -/
def D.plain : D → Bool
  | .sl _ => false
  | _ => true
def lift {α : Type} (o : Option α) : M α := fun e => match o with
  | some a => .ok a e
  | none => .no

/-! ## how data stand in the heap -/
def keyD : D → Option Key
  | .int i => some (.inl i)
  | .str x => some (.inr x)
  | _ => none
def keysD : List D → Option (List Key)
  | [] => some []
  | d :: r => match keyD d, keysD r with
    | some k, some ks => some (k :: ks)
    | _, _ => none
def keyT : D → Option (List Key)
  | .tup l => keysD l
  | _ => none
def keysT : List D → Option (List (List Key))
  | [] => some []
  | d :: r => match keyT d, keysT r with
    | some k, some ks => some (k :: ks)
    | _, _ => none
abbrev Al := Nat → Option Addr
structure Kw where
  K : PySem.W.Frag
  w : World
/-- the entries of a written dict with text keys -/
def KdKeys : List D → List DictEntry → Prop
  | [], es => es = []
  | d :: r, es => ∃ e l x t, es = e :: l ∧ d = .str x ∧ e.key = .str x t ∧ KdKeys r l
section
variable (K : Kw)
mutual
def Rep (G : Hp) (α : Al) : D → V → Prop
  | .non, v => v = .non
  | .bl b, v => v = .bl b
  | .int i, v => v = .int i
  | .str x, v => v = .str x
  | .tup l, v => ∃ a xs, v = .ref a ∧ SqT K.K G a xs ∧ RepL G α l xs
  | .lst l, v => ∃ a xs, v = .ref a ∧ G a = some (.lst xs) ∧ RepL G α l xs
  | .dct ks vs, v => ∃ a xs, v = .ref a ∧ RepL G α vs xs ∧ xs.length = ks.length ∧
      ∃ kk, keysD ks = some kk ∧ G a = some (.dK (kk.zip xs))
  | .kd ks vs, v => ∃ a es n xs, v = .ref a ∧ KDict K.K K.w a es n ∧ KdKeys ks es.toList ∧ RepL G α vs xs ∧ Vals xs (es.toList.map (·.val))
  | .scr l, v => ∃ a xs, v = .ref a ∧ SqL K.K G a xs ∧ RepL G α l xs
  | .loc n, v => ∃ a, v = .ref a ∧ α n = some a
  | .sl _, _ => False
def RepL (G : Hp) (α : Al) : List D → List V → Prop
  | [], xs => xs = []
  | d :: l, xs => ∃ x r, xs = x :: r ∧ Rep G α d x ∧ RepL G α l r
end
/-- the top object in H, what it holds in G -/
def RepB (H G : Hp) (α : Al) : D → V → Prop
  | .lst l, v => ∃ a xs, v = .ref a ∧ H a = some (.lst xs) ∧ RepL K G α l xs
  | .dct ks vs, v => ∃ a xs, v = .ref a ∧ RepL K G α vs xs ∧ xs.length = ks.length ∧
      ∃ kk, keysD ks = some kk ∧ H a = some (.dK (kk.zip xs))
  | d, v => Rep K G α d v
/-- an object of one's own: it may be written -/
def Own (H G : Hp) (α : Al) (a : Addr) : D → Prop
  | .lst l => ∃ xs, H a = some (.lst xs) ∧ RepL K G α l xs
  | .dct ks vs => ∃ xs, RepL K G α vs xs ∧ xs.length = ks.length ∧
      ∃ kk, keysD ks = some kk ∧ H a = some (.dK (kk.zip xs))
  | _ => False
end

structure Ext (G : Hp) (α : Al) (G' : Hp) (α' : Al) : Prop where
  g : ∀ a o, G a = some o → G' a = some o
  al : ∀ n a, α n = some a → α' n = some a
theorem Ext.refl {G : Hp} {α : Al} : Ext G α G α := ⟨fun _ _ h => h, fun _ _ h => h⟩
theorem Ext.trans {G G1 G2 : Hp} {α α1 α2 : Al} (a : Ext G α G1 α1) (b : Ext G1 α1 G2 α2) : Ext G α G2 α2 := ⟨fun c o h => b.g c o (a.g c o h), fun n c h => b.al n c (a.al n c h)⟩

theorem Rd.sub {G H : Hp} {a : Addr} {u : HO} (h : Rd G a u) (s : ∀ a o, G a = some o → H a = some o) : Rd H a u := by
  rcases h with h | ⟨o, h⟩
  · exact .inl (s _ _ h)
  · exact .inr ⟨o, s _ _ h⟩
theorem SqL.sub {K : PySem.W.Frag} {G H : Hp} {a : Addr} {xs : List V} (h : SqL K G a xs) (s : ∀ a o, G a = some o → H a = some o) : SqL K H a xs := by
  rcases h with h | h
  · exact .inl (Rd.sub h s)
  · exact .inr h
theorem SqT.sub {K : PySem.W.Frag} {G H : Hp} {a : Addr} {xs : List V} (h : SqT K G a xs) (s : ∀ a o, G a = some o → H a = some o) : SqT K H a xs := by
  rcases h with h | h
  · exact .inl (Rd.sub h s)
  · exact .inr h
section
variable {K : Kw}
mutual
theorem Rep.ext {G G' : Hp} {α α' : Al} (x : Ext G α G' α') : ∀ (d : D) (v : V), Rep K G α d v → Rep K G' α' d v
  | .non, _, h => h
  | .bl _, _, h => h
  | .int _, _, h => h
  | .str _, _, h => h
  | .tup l, _, h => by
    unfold Rep at h ⊢
    obtain ⟨a, xs, e, s, r⟩ := h
    exact ⟨a, xs, e, SqT.sub s x.g, RepL.ext x l xs r⟩
  | .lst l, _, h => by
    unfold Rep at h ⊢
    obtain ⟨a, xs, e, s, r⟩ := h
    exact ⟨a, xs, e, x.g _ _ s, RepL.ext x l xs r⟩
  | .scr l, _, h => by
    unfold Rep at h ⊢
    obtain ⟨a, xs, e, s, r⟩ := h
    exact ⟨a, xs, e, SqL.sub s x.g, RepL.ext x l xs r⟩
  | .kd ks vs, _, h => by
    unfold Rep at h ⊢
    obtain ⟨a, es, n, xs, e, s, k, r, z⟩ := h
    exact ⟨a, es, n, xs, e, s, k, RepL.ext x vs xs r, z⟩
  | .dct ks vs, _, h => by
    unfold Rep at h ⊢
    obtain ⟨a, xs, e, r, l, s⟩ := h
    refine ⟨a, xs, e, RepL.ext x vs xs r, l, ?_⟩
    obtain ⟨kk, e1, e2⟩ := s
    exact ⟨kk, e1, x.g _ _ e2⟩
  | .loc n, _, h => by
    unfold Rep at h ⊢
    obtain ⟨a, e, h⟩ := h
    exact ⟨a, e, x.al _ _ h⟩
  | .sl _, _, h => by
    unfold Rep at h
    exact h.elim
theorem RepL.ext {G G' : Hp} {α α' : Al} (x : Ext G α G' α') : ∀ (l : List D) (xs : List V), RepL K G α l xs → RepL K G' α' l xs
  | [], _, h => by unfold RepL at h ⊢; exact h
  | d :: l, xs, h => by
    unfold RepL at h ⊢
    obtain ⟨y, r, e, h1, h2⟩ := h
    exact ⟨y, r, e, Rep.ext x d y h1, RepL.ext x l r h2⟩
end
theorem RepL.length {G : Hp} {α : Al} : ∀ {l : List D} {xs : List V}, RepL K G α l xs → xs.length = l.length
  | [], _, h => by unfold RepL at h; subst h; rfl
  | d :: l, xs, h => by
    unfold RepL at h
    obtain ⟨y, r, e, h1, h2⟩ := h
    subst e
    rw [List.length_cons, List.length_cons, RepL.length h2]
theorem RepL.nil {G : Hp} {α : Al} : RepL K G α [] [] := by unfold RepL; rfl
theorem RepL.cons {G : Hp} {α : Al} {d : D} {l : List D} {x : V} {xs : List V} (h : Rep K G α d x) (r : RepL K G α l xs) : RepL K G α (d :: l) (x :: xs) := by
  unfold RepL; exact ⟨x, xs, rfl, h, r⟩
theorem RepL.append {G : Hp} {α : Al} : ∀ {l m : List D} {xs ys : List V}, RepL K G α l xs → RepL K G α m ys → RepL K G α (l ++ m) (xs ++ ys)
  | [], _, _, _, h, h' => by unfold RepL at h; subst h; exact h'
  | d :: l, m, xs, ys, h, h' => by
    unfold RepL at h
    obtain ⟨y, r, e, h1, h2⟩ := h
    subst e
    exact RepL.cons h1 (RepL.append h2 h')
theorem RepL.get {G : Hp} {α : Al} : ∀ {l : List D} {xs : List V} {i : Nat} {d : D}, RepL K G α l xs → l[i]? = some d → ∃ x, xs[i]? = some x ∧ Rep K G α d x
  | [], _, _, _, _, e => by simp at e
  | d :: l, xs, i, d', h, e => by
    unfold RepL at h
    obtain ⟨y, r, e1, h1, h2⟩ := h
    subst e1
    cases i with
    | zero => simp at e; subst e; exact ⟨y, rfl, h1⟩
    | succ i => obtain ⟨x, a, b⟩ := RepL.get (i := i) (d := d') h2 (by simpa using e); exact ⟨x, by simpa using a, b⟩
theorem RepL.take {G : Hp} {α : Al} : ∀ {l : List D} {xs : List V} (n : Nat), RepL K G α l xs → RepL K G α (l.take n) (xs.take n)
  | _, _, 0, _ => RepL.nil
  | [], _, n + 1, h => by unfold RepL at h; subst h; exact RepL.nil
  | d :: l, xs, n + 1, h => by
    unfold RepL at h
    obtain ⟨y, r, e, h1, h2⟩ := h
    subst e
    exact RepL.cons h1 (RepL.take n h2)
theorem RepL.drop {G : Hp} {α : Al} : ∀ {l : List D} {xs : List V} (n : Nat), RepL K G α l xs → RepL K G α (l.drop n) (xs.drop n)
  | _, _, 0, h => h
  | [], _, n + 1, h => by unfold RepL at h; subst h; exact RepL.nil
  | d :: l, xs, n + 1, h => by
    unfold RepL at h
    obtain ⟨y, r, e, h1, h2⟩ := h
    subst e
    exact RepL.drop n h2
theorem RepB.of {G H : Hp} {α : Al} (s : ∀ a o, G a = some o → H a = some o) : ∀ {d : D} {v : V}, Rep K G α d v → RepB K H G α d v
  | .non, _, h => h
  | .bl _, _, h => h
  | .int _, _, h => h
  | .str _, _, h => h
  | .tup l, _, h => h
  | .lst l, _, h => by
    unfold Rep at h
    obtain ⟨a, xs, e, q, r⟩ := h
    exact ⟨a, xs, e, s _ _ q, r⟩
  | .kd _ _, _, h => h
  | .scr _, _, h => h
  | .dct ks vs, _, h => by
    unfold Rep at h
    obtain ⟨a, xs, e, r, l, q⟩ := h
    refine ⟨a, xs, e, r, l, ?_⟩
    obtain ⟨kk, e1, e2⟩ := q
    exact ⟨kk, e1, s _ _ e2⟩
  | .loc n, _, h => h
  | .sl _, _, h => h
theorem Own.rep {G H : Hp} {α : Al} {a : Addr} : ∀ {d : D}, Own K H G α a d → RepB K H G α d (.ref a)
  | .lst l, h => by
    obtain ⟨xs, e, r⟩ := h
    exact ⟨a, xs, rfl, e, r⟩
  | .dct ks vs, h => by
    obtain ⟨xs, r, l, q⟩ := h
    refine ⟨a, xs, rfl, r, l, ?_⟩
    obtain ⟨kk, e1, e2⟩ := q
    exact ⟨kk, e1, e2⟩
  | .non, h => h.elim
  | .bl _, h => h.elim
  | .int _, h => h.elim
  | .str _, h => h.elim
  | .tup _, h => h.elim
  | .loc _, h => h.elim
  | .sl _, h => h.elim
  | .kd _ _, h => h.elim
  | .scr _, h => h.elim
theorem Own.some {G H : Hp} {α : Al} {a : Addr} : ∀ {d : D}, Own K H G α a d → ∃ o, H a = some o
  | .lst l, h => by
    obtain ⟨xs, e, r⟩ := h
    exact ⟨_, e⟩
  | .dct ks vs, h => by
    obtain ⟨xs, r, l, q⟩ := h
    obtain ⟨kk, e1, e2⟩ := q
    exact ⟨_, e2⟩
  | .non, h => h.elim
  | .bl _, h => h.elim
  | .int _, h => h.elim
  | .str _, h => h.elim
  | .tup _, h => h.elim
  | .loc _, h => h.elim
  | .sl _, h => h.elim
  | .kd _ _, h => h.elim
  | .scr _, h => h.elim
/-- it stands while its object and what it holds stand -/
theorem Own.keep {G G' H H' : Hp} {α α' : Al} {a : Addr} (x : Ext G α G' α') : ∀ {d : D}, Own K H G α a d → H' a = H a → Own K H' G' α' a d
  | .lst l, h, k => by
    obtain ⟨xs, e, r⟩ := h
    exact ⟨xs, by rw [k]; exact e, RepL.ext x _ _ r⟩
  | .dct ks vs, h, k => by
    obtain ⟨xs, r, l, q⟩ := h
    refine ⟨xs, RepL.ext x _ _ r, l, ?_⟩
    obtain ⟨kk, e1, e2⟩ := q
    exact ⟨kk, e1, by rw [k]; exact e2⟩
  | .non, h, _ => h.elim
  | .bl _, h, _ => h.elim
  | .int _, h, _ => h.elim
  | .str _, h, _ => h.elim
  | .tup _, h, _ => h.elim
  | .loc _, h, _ => h.elim
  | .sl _, h, _ => h.elim
  | .kd _ _, h, _ => h.elim
  | .scr _, h, _ => h.elim
end
end BZ
end
section
set_option Elab.async false
set_option linter.all false
set_option maxRecDepth 100000
set_option maxHeartbeats 1000000
namespace BZ
open PySem PySem.Spec PyProof.Rows L2

/-- the entry of a def's run (or a block's): the heap there, how many cells stand, where -/
structure Frm where
  H0 : Hp
  G0 : Hp
  n0 : Nat
  α0 : Al
  T : Addr → Prop
def isTbl : HO → Bool
  | .tbl _ => true
  | _ => false
structure W (K : Kw) (F : Frm) (ρ : E) (G : Hp) (α : Al) (σ : L2.St) (H : Hp) : Prop where
  sub : ∀ a o, G a = some o → H a = some o
  len : σ.length = ρ.sl.length
  slot : ∀ (i : Nat) (d : D), ρ.sl[i]? = some (.val d) → ∃ v, σ[i]? = some (some v) ∧ Rep K G α d v
  own : ∀ (i : Nat) (d : D), ρ.sl[i]? = some (.own d) → ∃ a, σ[i]? = some (some (.ref a)) ∧ Own K H G α a d ∧ G a = none ∧ F.H0 a = none ∧ ∀ n, α n ≠ some a
  lent : ∀ (i : Nat) (d : D), ρ.sl[i]? = some (.lent d) → ∃ a, σ[i]? = some (some (.ref a)) ∧ Own K F.H0 G α a d ∧ ∀ n, n < F.n0 → F.α0 n ≠ some a
  sep : ∀ (i j : Nat) (d d' : D) (a : Addr), ρ.sl[i]? = some (.own d) → ρ.sl[j]? = some (.own d') → σ[i]? = some (some (.ref a)) → σ[j]? = some (some (.ref a)) → i = j
  cell : ∀ (n : Nat) (d : D), ρ.st[n]? = some d → ∃ a, α n = some a ∧ Own K H G α a d ∧ G a = none ∧ (n < F.n0 ∨ F.H0 a = none)
  dom : ∀ n a, α n = some a → n < ρ.st.length
  inj : ∀ n m a, α n = some a → α m = some a → n = m
  old : ∀ n, n < F.n0 → α n = F.α0 n
  keep : ∀ a o, F.H0 a = some o → (∀ n, n < F.n0 → F.α0 n ≠ some a) → isTbl o = false → H a = some o
  there : ∀ a o, F.H0 a = some o → ∃ o', H a = some o'
  gnew : ∀ a o, G a = some o → (∃ u, F.G0 a = some u) ∨ F.H0 a = none
  n0 : F.n0 ≤ ρ.st.length
  tab : ∀ P, F.T P → GxR.TabG H P ∧ G P = none
/-- a is no root -/
structure Free (ρ : E) (G : Hp) (α : Al) (σ : L2.St) (a : Addr) : Prop where
  g : G a = none
  cl : ∀ n, α n ≠ some a
  ow : ∀ (i : Nat) (d : D), ρ.sl[i]? = some (.own d) → σ[i]? ≠ some (some (.ref a))

def deref (ρ : E) : D → Option D
  | .sl i => match ρ.sl[i]? with
    | some (.own d) => some d
    | some (.lent d) => some d
    | _ => none
  | .loc n => ρ.st[n]?
  | d => some d
def TRep (K : Kw) (σ : L2.St) (G : Hp) (α : Al) : D → V → Prop
  | .sl i, v => σ[i]? = some (some v)
  | d, v => Rep K G α d v
section
variable {K : Kw} {F : Frm} {ρ : E} {G H : Hp} {α : Al} {σ : L2.St} {a : Addr}
theorem TRep.of {d : D} {v : V} (h : Rep K G α d v) : TRep K σ G α d v := by
  cases d <;> first
    | exact h
    | (unfold Rep at h; exact h.elim)
theorem TRep.plain {d : D} {v : V} (h : TRep K σ G α d v) (p : d.plain = true) : Rep K G α d v := by
  cases d <;> first
    | exact h
    | exact absurd p (by simp [D.plain])
theorem TRep.ext {G' : Hp} {α' : Al} {d : D} {v : V} (x : Ext G α G' α') (h : TRep K σ G α d v) : TRep K σ G' α' d v := by
  cases d <;> first
    | exact h
    | exact Rep.ext x _ _ h
theorem own_notTbl {d : D} (h : Own K H G α a d) : ∃ o, H a = some o ∧ isTbl o = false := by
  cases d with
  | lst l => obtain ⟨xs, e, _⟩ := h; exact ⟨_, e, rfl⟩
  | dct ks vs =>
    obtain ⟨xs, _, _, q⟩ := h
    obtain ⟨kk, _, e⟩ := q
    exact ⟨_, e, rfl⟩
  | _ => exact h.elim
theorem W.lentAt (w : W K F ρ G α σ H) {i : Nat} {d : D} (e : ρ.sl[i]? = some (.lent d)) : ∃ a, σ[i]? = some (some (.ref a)) ∧ Own K H G α a d := by
  obtain ⟨a, h1, h2, h3⟩ := w.lent i d e
  obtain ⟨o, ho, ht⟩ := own_notTbl h2
  exact ⟨a, h1, h2.keep Ext.refl (by rw [ho]; exact w.keep a o ho h3 ht)⟩
theorem W.look (w : W K F ρ G α σ H) {d d' : D} {v : V} (r : TRep K σ G α d v) (e : deref ρ d = some d') : RepB K H G α d' v := by
  cases d with
  | sl i =>
    unfold deref at e
    dsimp only at e
    cases q : ρ.sl[i]? with
    | none => rw [q] at e; cases e
    | some s =>
      rw [q] at e
      cases s with
      | own d1 =>
        cases e
        obtain ⟨a, h1, h2, _⟩ := w.own i _ q
        have : σ[i]? = some (some v) := r
        rw [h1] at this; cases this
        exact h2.rep
      | lent d1 =>
        cases e
        obtain ⟨a, h1, h2⟩ := w.lentAt q
        have : σ[i]? = some (some v) := r
        rw [h1] at this; cases this
        exact h2.rep
      | un => cases e
      | val _ => cases e
  | loc n =>
    unfold deref at e
    obtain ⟨a, h1, h2, _⟩ := w.cell n d' e
    have r' : Rep K G α (.loc n) v := r
    unfold Rep at r'
    obtain ⟨b, rfl, hb⟩ := r'
    rw [h1] at hb; cases hb
    exact h2.rep
  | non => cases e; exact RepB.of w.sub r
  | bl _ => cases e; exact RepB.of w.sub r
  | int _ => cases e; exact RepB.of w.sub r
  | str _ => cases e; exact RepB.of w.sub r
  | tup _ => cases e; exact RepB.of w.sub r
  | lst _ => cases e; exact RepB.of w.sub r
  | dct _ _ => cases e; exact RepB.of w.sub r
  | kd _ _ => cases e; exact RepB.of w.sub r
  | scr _ => cases e; exact RepB.of w.sub r

/-- what stood stands at the new address alone -/
theorem upd_of_none {H : Hp} {p : Addr} {o : HO} (n : H p = none) : ∀ a u, H a = some u → upd H p o a = some u := fun a u e => by
  rw [upd_ne (ne_of_none e n)]; exact e
theorem ext_upd {G : Hp} {α : Al} {p : Addr} {o : HO} (n : G p = none) : Ext G α (upd G p o) α := ⟨upd_of_none n, fun _ _ h => h⟩
/-- nothing but p has changed, p no root, what is held may have grown -/
theorem W.alloc0 (w : W K F ρ G α σ H) {p : Addr} {o : HO} (n : H p = none) : W K F ρ G α σ (upd H p o) ∧ Free ρ G α σ p ∧ F.H0 p = none := by
  have gp : G p = none := by
    cases q : G p with
    | none => rfl
    | some u => rw [w.sub _ _ q] at n; cases n
  have keepO : ∀ {a d}, Own K H G α a d → a ≠ p := fun {a d} h z => by
    obtain ⟨o, e⟩ := h.some
    rw [z, n] at e; cases e
  have ap : ∀ m, α m ≠ some p := fun m z => by
    have hl := w.dom _ _ z
    obtain ⟨a, e1, e2, _⟩ := w.cell m _ (List.getElem?_eq_getElem hl)
    rw [z] at e1; cases e1
    exact keepO e2 rfl
  have h0 : F.H0 p = none := by
    cases q : F.H0 p with
    | none => rfl
    | some u =>
      obtain ⟨u', e⟩ := w.there _ _ q
      rw [n] at e; cases e
  refine ⟨⟨fun a u e => upd_of_none n _ _ (w.sub _ _ e), w.len, w.slot, fun i d e => ?_, w.lent, w.sep, fun m d e => ?_, w.dom, w.inj, w.old, fun a u e1 e2 e3 => upd_of_none n _ _ (w.keep a u e1 e2 e3), fun a u e => (let ⟨u', q⟩ := w.there a u e; ⟨u', upd_of_none n _ _ q⟩), w.gnew, w.n0, fun P hP => (let ⟨⟨ps, e1, e2⟩, e3⟩ := w.tab P hP; ⟨⟨ps, upd_of_none n _ _ e1, e2⟩, e3⟩)⟩, ⟨gp, ap, fun i d e z => ?_⟩, h0⟩
  · obtain ⟨a, h1, h2, h3⟩ := w.own i d e
    exact ⟨a, h1, h2.keep Ext.refl (upd_ne (keepO h2)), h3⟩
  · obtain ⟨a, h1, h2, h3⟩ := w.cell m d e
    exact ⟨a, h1, h2.keep Ext.refl (upd_ne (keepO h2)), h3⟩
  · obtain ⟨a, h1, h2, h3⟩ := w.own i d e
    rw [z] at h1; cases h1
    exact keepO h2 rfl

/-- a root or what is held stands when p, a free address, is laid hold of: H p = some o goes into G -/
theorem W.grow (w : W K F ρ G α σ H) {p : Addr} {o : HO} (h : H p = some o) (f : Free ρ G α σ p) (h0 : F.H0 p = none) (nt : isTbl o = false) : W K F ρ (upd G p o) α σ H ∧ Ext G α (upd G p o) α := by
  have x : Ext G α (upd G p o) α := ext_upd f.g
  refine ⟨⟨fun a u e => ?_, w.len, fun i d e => ?_, fun i d e => ?_, fun i d e => (let ⟨a, h1, h2, h3⟩ := w.lent i d e; ⟨a, h1, h2.keep x rfl, h3⟩), w.sep, fun m d e => ?_, w.dom, w.inj, w.old, w.keep, w.there, fun a u e => ?_, w.n0, fun P hP => (let ⟨⟨ps, e1, e2⟩, e3⟩ := w.tab P hP; ⟨⟨ps, e1, e2⟩, (upd_ne fun z => by rw [z, h] at e1; cases e1; cases nt).trans e3⟩)⟩, x⟩
  · by_cases z : a = p
    · rw [z, upd_same] at e; cases e; rw [z]; exact h
    · rw [upd_ne z] at e; exact w.sub _ _ e
  · obtain ⟨v, h1, h2⟩ := w.slot i d e
    exact ⟨v, h1, Rep.ext x _ _ h2⟩
  · obtain ⟨a, h1, h2, h3, h4, h5⟩ := w.own i d e
    refine ⟨a, h1, h2.keep x rfl, ?_, h4, h5⟩
    rw [upd_ne (fun z => f.ow i d e (by rw [← z]; exact h1))]; exact h3
  · obtain ⟨a, h1, h2, h3, h4⟩ := w.cell m d e
    refine ⟨a, h1, h2.keep x rfl, ?_, h4⟩
    rw [upd_ne (fun z => f.cl m (by rw [← z]; exact h1))]; exact h3
  · by_cases z : a = p
    · rw [z]; exact .inr h0
    · rw [upd_ne z] at e; exact w.gnew _ _ e
/-- a new object that is held at once -/
theorem W.alloc (w : W K F ρ G α σ H) {p : Addr} {o : HO} (n : H p = none) (nt : isTbl o = false := by rfl) : W K F ρ (upd G p o) α σ (upd H p o) ∧ Ext G α (upd G p o) α := by
  obtain ⟨w1, f, h0⟩ := w.alloc0 (o := o) n
  exact w1.grow upd_same f h0 nt
theorem W.free_of_none (w : W K F ρ G α σ H) {p : Addr} (n : H p = none) : Free ρ G α σ p := (w.alloc0 (o := .lst []) n).2.1
/-- a free object of one's own is given away: data from now on -/
theorem W.freeze (w : W K F ρ G α σ H) {p : Addr} {d : D} (h : Own K H G α p d) (f : Free ρ G α σ p) (h0 : F.H0 p = none) :
    ∃ G', W K F ρ G' α σ H ∧ Ext G α G' α ∧ Rep K G' α d (.ref p) := by
  obtain ⟨o, e, nt⟩ := own_notTbl h
  obtain ⟨w1, x⟩ := w.grow e f h0 nt
  refine ⟨_, w1, x, ?_⟩
  cases d with
  | lst l =>
    obtain ⟨xs, e1, r⟩ := h
    rw [e] at e1; cases e1
    unfold Rep
    exact ⟨p, xs, rfl, upd_same, RepL.ext x _ _ r⟩
  | dct ks vs =>
    obtain ⟨xs, r, l, q⟩ := h
    unfold Rep
    refine ⟨p, xs, rfl, RepL.ext x _ _ r, l, ?_⟩
    obtain ⟨kk, e1, e2⟩ := q
    rw [e] at e2; cases e2
    exact ⟨kk, e1, upd_same⟩
  | _ => exact h.elim

/-! ### slots -/
abbrev E.set (ρ : E) (i : Nat) (s : S) : E := { ρ with sl := ρ.sl.set i s }
/-- a slot's value is written -/
theorem W.setVal (w : W K F ρ G α σ H) {i : Nat} {d : D} {v : V} (r : Rep K G α d v) : W K F (ρ.set i (.val d)) G α (σ.set i (some v)) H := by
  have ne : ∀ {j : Nat} {s : S}, (ρ.sl.set i (.val d))[j]? = some s → (∀ d', s ≠ .val d') → j ≠ i ∧ ρ.sl[j]? = some s := fun {j s} e n => by
    by_cases z : j = i
    · subst z
      by_cases hl : j < ρ.sl.length
      · rw [List.getElem?_set_self hl] at e; cases e; exact absurd rfl (n d)
      · rw [List.getElem?_eq_none (by simpa using hl)] at e; cases e
    · rw [List.getElem?_set_ne (Ne.symm z)] at e; exact ⟨z, e⟩
  refine ⟨w.sub, by simp [w.len], fun j d' e => ?_, fun j d' e => ?_, fun j d' e => (let ⟨z, e⟩ := ne e (fun _ q => by cases q); let ⟨a, h1, h2⟩ := w.lent j d' e; ⟨a, by rw [List.getElem?_set_ne (Ne.symm z)]; exact h1, h2⟩), fun j k d1 d2 a e1 e2 e3 e4 => ?_, w.cell, w.dom, w.inj, w.old, w.keep, w.there, w.gnew, w.n0, w.tab⟩
  · have e : (ρ.sl.set i (.val d))[j]? = some (.val d') := e
    by_cases z : j = i
    · subst z
      by_cases hl : j < ρ.sl.length
      · rw [List.getElem?_set_self hl] at e; cases e
        exact ⟨v, List.getElem?_set_self (by rw [w.len]; exact hl), r⟩
      · rw [List.getElem?_eq_none (by simpa using hl)] at e; cases e
    · rw [List.getElem?_set_ne (Ne.symm z)] at e
      obtain ⟨v', h1, h2⟩ := w.slot j d' e
      exact ⟨v', by rw [List.getElem?_set_ne (Ne.symm z)]; exact h1, h2⟩
  · obtain ⟨z, e⟩ := ne e (fun _ q => by cases q)
    obtain ⟨a, h1, h2⟩ := w.own j d' e
    exact ⟨a, by rw [List.getElem?_set_ne (Ne.symm z)]; exact h1, h2⟩
  · obtain ⟨z1, e1⟩ := ne e1 (fun _ q => by cases q)
    obtain ⟨z2, e2⟩ := ne e2 (fun _ q => by cases q)
    rw [List.getElem?_set_ne (Ne.symm z1)] at e3
    rw [List.getElem?_set_ne (Ne.symm z2)] at e4
    exact w.sep j k d1 d2 a e1 e2 e3 e4
/-- a free object of one's own is taken into a slot -/
theorem W.setOwn (w : W K F ρ G α σ H) {i : Nat} {d : D} {p : Addr} (h : Own K H G α p d) (f : Free ρ G α σ p) (h0 : F.H0 p = none) : W K F (ρ.set i (.own d)) G α (σ.set i (some (.ref p))) H := by
  have at_ : ∀ {j : Nat} {s : S}, (ρ.sl.set i (.own d))[j]? = some s → (j = i ∧ s = .own d ∧ i < ρ.sl.length) ∨ (j ≠ i ∧ ρ.sl[j]? = some s) := fun {j s} e => by
    by_cases z : j = i
    · subst z
      by_cases hl : j < ρ.sl.length
      · rw [List.getElem?_set_self hl] at e; cases e; exact .inl ⟨rfl, rfl, hl⟩
      · rw [List.getElem?_eq_none (by simpa using hl)] at e; cases e
    · rw [List.getElem?_set_ne (Ne.symm z)] at e; exact .inr ⟨z, e⟩
  refine ⟨w.sub, by simp [w.len], fun j d' e => ?_, fun j d' e => ?_, fun j d' e => ?_, fun j k d1 d2 a e1 e2 e3 e4 => ?_, w.cell, w.dom, w.inj, w.old, w.keep, w.there, w.gnew, w.n0, w.tab⟩
  · rcases at_ e with ⟨_, q, _⟩ | ⟨z, e⟩
    · cases q
    · obtain ⟨v', h1, h2⟩ := w.slot j d' e
      exact ⟨v', by rw [List.getElem?_set_ne (Ne.symm z)]; exact h1, h2⟩
  · rcases at_ e with ⟨rfl, q, hl⟩ | ⟨z, e⟩
    · cases q
      exact ⟨p, List.getElem?_set_self (by rw [w.len]; exact hl), h, f.g, h0, f.cl⟩
    · obtain ⟨a, h1, h2⟩ := w.own j d' e
      exact ⟨a, by rw [List.getElem?_set_ne (Ne.symm z)]; exact h1, h2⟩
  · rcases at_ e with ⟨_, q, _⟩ | ⟨z, e⟩
    · cases q
    · obtain ⟨a, h1, h2⟩ := w.lent j d' e
      exact ⟨a, by rw [List.getElem?_set_ne (Ne.symm z)]; exact h1, h2⟩
  · rcases at_ e1 with ⟨y1, _, hl⟩ | ⟨z1, q1⟩
    · rcases at_ e2 with ⟨y2, _, _⟩ | ⟨z2, q2⟩
      · exact y1.trans y2.symm
      · rw [y1, List.getElem?_set_self (by rw [w.len]; exact hl)] at e3; cases e3
        rw [List.getElem?_set_ne (Ne.symm z2)] at e4
        exact absurd e4 (f.ow _ _ q2)
    · rw [List.getElem?_set_ne (Ne.symm z1)] at e3
      rcases at_ e2 with ⟨y2, _, hl⟩ | ⟨z2, q2⟩
      · rw [y2, List.getElem?_set_self (by rw [w.len]; exact hl)] at e4; cases e4
        exact absurd e3 (f.ow _ _ q1)
      · rw [List.getElem?_set_ne (Ne.symm z2)] at e4
        exact w.sep j k d1 d2 a q1 q2 e3 e4
/-- a slot is forgotten -/
theorem W.drop (w : W K F ρ G α σ H) (i : Nat) (v : Option V) : W K F (ρ.set i .un) G α (σ.set i v) H := by
  have ne : ∀ {j : Nat} {s : S}, (ρ.sl.set i .un)[j]? = some s → s ≠ .un → j ≠ i ∧ ρ.sl[j]? = some s := fun {j s} e n => by
    by_cases z : j = i
    · subst z
      by_cases hl : j < ρ.sl.length
      · rw [List.getElem?_set_self hl] at e; cases e; exact absurd rfl n
      · rw [List.getElem?_eq_none (by simpa using hl)] at e; cases e
    · rw [List.getElem?_set_ne (Ne.symm z)] at e; exact ⟨z, e⟩
  refine ⟨w.sub, by simp [w.len], fun j d' e => ?_, fun j d' e => ?_, fun j d' e => (let ⟨z, e⟩ := ne e (fun q => by cases q); let ⟨a, h1, h2⟩ := w.lent j d' e; ⟨a, by rw [List.getElem?_set_ne (Ne.symm z)]; exact h1, h2⟩), fun j k d1 d2 a e1 e2 e3 e4 => ?_, w.cell, w.dom, w.inj, w.old, w.keep, w.there, w.gnew, w.n0, w.tab⟩
  · obtain ⟨z, e⟩ := ne e (fun q => by cases q)
    obtain ⟨v', h1, h2⟩ := w.slot j d' e
    exact ⟨v', by rw [List.getElem?_set_ne (Ne.symm z)]; exact h1, h2⟩
  · obtain ⟨z, e⟩ := ne e (fun q => by cases q)
    obtain ⟨a, h1, h2⟩ := w.own j d' e
    exact ⟨a, by rw [List.getElem?_set_ne (Ne.symm z)]; exact h1, h2⟩
  · obtain ⟨z1, e1⟩ := ne e1 (fun q => by cases q)
    obtain ⟨z2, e2⟩ := ne e2 (fun q => by cases q)
    rw [List.getElem?_set_ne (Ne.symm z1)] at e3
    rw [List.getElem?_set_ne (Ne.symm z2)] at e4
    exact w.sep j k d1 d2 a e1 e2 e3 e4
/-- the slot's object is given away -/
theorem W.thaw (w : W K F ρ G α σ H) {i : Nat} {d : D} (e : ρ.sl[i]? = some (.own d)) : ∃ G', W K F (ρ.set i (.val d)) G' α σ H ∧ Ext G α G' α := by
  obtain ⟨a, h1, h2, h3, h4, h5⟩ := w.own i d e
  have hl : i < ρ.sl.length := (List.getElem?_eq_some_iff.mp e).1
  -- forget the slot, freeze, write it again
  have w1 : W K F (ρ.set i .un) G α σ H := by
    have q := w.drop i (some (.ref a))
    have hl' : i < σ.length := by rw [w.len]; exact hl
    have : σ.set i (some (.ref a)) = σ := by
      refine List.ext_getElem? fun j => ?_
      by_cases z : i = j
      · subst z; rw [List.getElem?_set_self hl', h1]
      · rw [List.getElem?_set_ne z]
    rw [this] at q; exact q
  have f : Free (ρ.set i .un) G α σ a := ⟨h3, h5, fun j d' q z => by
    have q : (ρ.sl.set i .un)[j]? = some (.own d') := q
    by_cases y : i = j
    · subst y; rw [List.getElem?_set_self hl] at q; cases q
    · rw [List.getElem?_set_ne y] at q
      exact y (w.sep i j d d' a e q h1 z)⟩
  obtain ⟨G', w2, x, r⟩ := w1.freeze h2 f h4
  refine ⟨G', ?_, x⟩
  have q := w2.setVal (i := i) r
  have e2 : (ρ.set i .un).set i (.val d) = ρ.set i (.val d) := by simp [E.set]
  have hl' : i < σ.length := by rw [w.len]; exact hl
  have : σ.set i (some (.ref a)) = σ := by
    refine List.ext_getElem? fun j => ?_
    by_cases z : i = j
    · subst z; rw [List.getElem?_set_self hl', h1]
    · rw [List.getElem?_set_ne z]
  rw [e2, this] at q; exact q
/-- the object of a slot is written -/
theorem W.write (w : W K F ρ G α σ H) {i : Nat} {d d' : D} {a : Addr} {o : HO} (e : ρ.sl[i]? = some (.own d)) (ha : σ[i]? = some (some (.ref a))) (h : Own K (upd H a o) G α a d') : W K F (ρ.set i (.own d')) G α σ (upd H a o) := by
  obtain ⟨a', h1, h2, h3, h4, h5⟩ := w.own i d e
  rw [ha] at h1; cases h1
  have hl : i < ρ.sl.length := (List.getElem?_eq_some_iff.mp e).1
  have at_ : ∀ {j : Nat} {s : S}, (ρ.sl.set i (.own d'))[j]? = some s → (j = i ∧ s = .own d') ∨ (j ≠ i ∧ ρ.sl[j]? = some s) := fun {j s} e => by
    by_cases z : j = i
    · subst z; rw [List.getElem?_set_self hl] at e; cases e; exact .inl ⟨rfl, rfl⟩
    · rw [List.getElem?_set_ne (Ne.symm z)] at e; exact .inr ⟨z, e⟩
  have nG : ∀ b u, G b = some u → b ≠ a := fun b u q z => by rw [z, h3] at q; cases q
  refine ⟨fun b u q => ?_, by simp [w.len], fun j d1 q => ?_, fun j d1 q => ?_, fun j d1 q => ?_, fun j k d1 d2 b e1 e2 e3 e4 => ?_, fun m d1 q => ?_, w.dom, w.inj, w.old, fun b u q1 q2 q3 => ?_, fun b u q => ?_, w.gnew, w.n0, fun P hP => (let ⟨⟨ps, e1, e2⟩, e3⟩ := w.tab P hP; let ⟨o', q1, q2⟩ := own_notTbl h2; ⟨⟨ps, (upd_ne fun z => by rw [z, q1] at e1; cases e1; cases q2).trans e1, e2⟩, e3⟩)⟩
  · rw [upd_ne (nG b u q)]; exact w.sub _ _ q
  · rcases at_ q with ⟨_, z⟩ | ⟨_, q⟩
    · cases z
    · exact w.slot j d1 q
  · rcases at_ q with ⟨rfl, z⟩ | ⟨z, q⟩
    · cases z; exact ⟨a, ha, h, h3, h4, h5⟩
    · obtain ⟨b, k1, k2, k3⟩ := w.own j d1 q
      exact ⟨b, k1, k2.keep Ext.refl (upd_ne fun y => z (w.sep j i d1 d b q e k1 (by rw [y]; exact ha))), k3⟩
  · rcases at_ q with ⟨_, z⟩ | ⟨_, q⟩
    · cases z
    · exact w.lent j d1 q
  · have e1' : ∃ d3, ρ.sl[j]? = some (.own d3) := by
      rcases at_ e1 with ⟨rfl, _⟩ | ⟨_, q⟩
      · exact ⟨d, e⟩
      · exact ⟨_, q⟩
    have e2' : ∃ d3, ρ.sl[k]? = some (.own d3) := by
      rcases at_ e2 with ⟨rfl, _⟩ | ⟨_, q⟩
      · exact ⟨d, e⟩
      · exact ⟨_, q⟩
    obtain ⟨_, q1⟩ := e1'
    obtain ⟨_, q2⟩ := e2'
    exact w.sep j k _ _ b q1 q2 e3 e4
  · obtain ⟨b, k1, k2, k3⟩ := w.cell m d1 q
    exact ⟨b, k1, k2.keep Ext.refl (upd_ne fun y => h5 m (by rw [← y]; exact k1)), k3⟩
  · rw [upd_ne (fun z => by rw [z, h4] at q1; cases q1)]; exact w.keep b u q1 q2 q3
  · obtain ⟨u', y⟩ := w.there b u q
    by_cases z : b = a
    · rw [z, upd_same]; exact ⟨_, rfl⟩
    · rw [upd_ne z]; exact ⟨u', y⟩
abbrev E.cell (ρ : E) (n : Nat) (d : D) : E := { ρ with st := ρ.st.set n d }
/-- a cell is written -/
theorem W.writeC (w : W K F ρ G α σ H) {n : Nat} {d' : D} {a : Addr} {o : HO} (hl : n < ρ.st.length) (ha : α n = some a) (h : Own K (upd H a o) G α a d') : W K F (ρ.cell n d') G α σ (upd H a o) := by
  obtain ⟨a', h1, h2, h3, h4⟩ := w.cell n _ (List.getElem?_eq_getElem hl)
  rw [ha] at h1; cases h1
  have at_ : ∀ {j : Nat} {s : D}, (ρ.st.set n d')[j]? = some s → (j = n ∧ s = d') ∨ (j ≠ n ∧ ρ.st[j]? = some s) := fun {j s} e => by
    by_cases z : j = n
    · subst z; rw [List.getElem?_set_self hl] at e; cases e; exact .inl ⟨rfl, rfl⟩
    · rw [List.getElem?_set_ne (Ne.symm z)] at e; exact .inr ⟨z, e⟩
  have nG : ∀ b u, G b = some u → b ≠ a := fun b u q z => by rw [z, h3] at q; cases q
  refine ⟨fun b u q => ?_, w.len, w.slot, fun j d1 q => ?_, w.lent, w.sep, fun m d1 q => ?_, fun m b q => by simpa using w.dom m b q, w.inj, w.old, fun b u q1 q2 q3 => ?_, fun b u q => ?_, w.gnew, by simpa using w.n0, fun P hP => (let ⟨⟨ps, e1, e2⟩, e3⟩ := w.tab P hP; let ⟨o', q1, q2⟩ := own_notTbl h2; ⟨⟨ps, (upd_ne fun z => by rw [z, q1] at e1; cases e1; cases q2).trans e1, e2⟩, e3⟩)⟩
  · rw [upd_ne (nG b u q)]; exact w.sub _ _ q
  · obtain ⟨b, k1, k2, k3, k4, k5⟩ := w.own j d1 q
    exact ⟨b, k1, k2.keep Ext.refl (upd_ne fun y => k5 n (by rw [y]; exact ha)), k3, k4, k5⟩
  · rcases at_ q with ⟨rfl, z⟩ | ⟨z, q⟩
    · rw [z]; exact ⟨a, ha, h, h3, h4⟩
    · obtain ⟨b, k1, k2, k3⟩ := w.cell m d1 q
      exact ⟨b, k1, k2.keep Ext.refl (upd_ne fun y => z (w.inj m n b k1 (by rw [y]; exact ha))), k3⟩
  · refine (upd_ne fun z => ?_).trans (w.keep b u q1 q2 q3)
    rcases h4 with h4 | h4
    · exact q2 n h4 (by rw [z, ← w.old n h4]; exact ha)
    · rw [z, h4] at q1; cases q1
  · obtain ⟨u', y⟩ := w.there b u q
    by_cases z : b = a
    · rw [z, upd_same]; exact ⟨_, rfl⟩
    · rw [upd_ne z]; exact ⟨u', y⟩
end
end BZ
end
section
set_option Elab.async false
set_option linter.all false
set_option maxRecDepth 100000
set_option maxHeartbeats 1000000
namespace BZ
open PySem PySem.Spec PyProof.Rows L2

/-! ## == of data -/
mutual
def eqD : D → D → Bool
  | .non, .non => true
  | .bl a, .bl b => a == b
  | .bl a, .int j => (if a then 1 else 0) == j
  | .int i, .bl b => i == (if b then 1 else 0)
  | .int i, .int j => i == j
  | .str x, .str y => x == y
  | .lst a, .lst b => eqDs a b
  | .tup a, .tup b => eqDs a b
  | _, _ => false
def eqDs : List D → List D → Bool
  | [], [] => true
  | x :: xs, y :: ys => eqD x y && eqDs xs ys
  | _, _ => false
end
mutual
/-- no dicts within, at most n deep -/
def depOk : Nat → D → Bool
  | _, .non => true
  | _, .bl _ => true
  | _, .int _ => true
  | _, .str _ => true
  | n + 1, .lst l => depOks n l
  | n + 1, .tup l => depOks n l
  | _, _ => false
def depOks : Nat → List D → Bool
  | _, [] => true
  | n, d :: l => depOk n d && depOks n l
end
mutual
def RawD (h : Heap) : D → Value → Prop
  | .non, u => u = .none
  | .bl b, u => u = .bool b
  | .int i, u => ∃ t, u = .int i t
  | .str x, u => ∃ t, u = .str x t
  | .lst l, u => ∃ a its, u = .ref a ∧ h.IsList a (List.toArray its) ∧ RawL h l its
  | .tup l, u => ∃ a its, u = .ref a ∧ h.IsTuple a (List.toArray its) ∧ RawL h l its
  | _, _ => False
def RawL (h : Heap) : List D → List Value → Prop
  | [], us => us = []
  | d :: l, us => ∃ u r, us = u :: r ∧ RawD h d u ∧ RawL h l r
end
theorem RawL.length {h : Heap} : ∀ {l : List D} {us : List Value}, RawL h l us → us.length = l.length
  | [], _, e => by unfold RawL at e; subst e; rfl
  | d :: l, us, e => by
    unfold RawL at e
    obtain ⟨u, r, e, _, q⟩ := e
    subst e
    rw [List.length_cons, List.length_cons, RawL.length q]
theorem islist_inj {h : Heap} {a : Addr} {x y : Array Value} (p : h.IsList a x) (q : h.IsList a y) : x = y := by
  obtain ⟨o, e, _, n, d⟩ := p
  obtain ⟨o', e', _, n', d'⟩ := q
  rw [e] at e'; cases e'
  rw [d] at d'; injection d'
theorem istup_inj {h : Heap} {a : Addr} {x y : Array Value} (p : h.IsTuple a x) (q : h.IsTuple a y) : x = y := by
  obtain ⟨o, e, _, n, d⟩ := p
  obtain ⟨o', e', _, n', d'⟩ := q
  rw [e] at e'; cases e'
  rw [d] at d'; injection d'
theorem list_not_tup {h : Heap} {a : Addr} {x y : Array Value} (p : h.IsList a x) (q : h.IsTuple a y) : False := by
  obtain ⟨o, ho, hc, _⟩ := p
  obtain ⟨o2, ho2, hc2, _⟩ := q
  rw [ho] at ho2
  cases ho2
  rw [hc] at hc2
  exact absurd hc2 (by simp)
mutual
theorem eqD_same {h : Heap} : ∀ (d e : D) (u : Value), RawD h d u → RawD h e u → eqD d e = true
  | .non, e, u, p, q => by
    unfold RawD at p; subst p
    cases e <;> (unfold RawD at q; first | rfl | (cases q; done) | (obtain ⟨_, q⟩ := q; cases q; done) | (obtain ⟨_, _, q, _⟩ := q; cases q; done) | exact q.elim)
  | .bl b, e, u, p, q => by
    unfold RawD at p; subst p
    cases e <;> (unfold RawD at q; first | (cases q; done) | (cases q; unfold eqD; simp; done) | (obtain ⟨_, q⟩ := q; cases q; done) | (obtain ⟨_, _, q, _⟩ := q; cases q; done) | exact q.elim)
  | .int i, e, u, p, q => by
    unfold RawD at p; obtain ⟨t, p⟩ := p; subst p
    cases e <;> (unfold RawD at q; first | (cases q; done) | (obtain ⟨_, q⟩ := q; cases q; done) | (obtain ⟨_, q⟩ := q; cases q; unfold eqD; simp; done) | (obtain ⟨_, _, q, _⟩ := q; cases q; done) | exact q.elim)
  | .str i, e, u, p, q => by
    unfold RawD at p; obtain ⟨t, p⟩ := p; subst p
    cases e <;> (unfold RawD at q; first | (cases q; done) | (obtain ⟨_, q⟩ := q; cases q; done) | (obtain ⟨_, q⟩ := q; cases q; unfold eqD; simp; done) | (obtain ⟨_, _, q, _⟩ := q; cases q; done) | exact q.elim)
  | .lst l, e, u, p, q => by
    unfold RawD at p; obtain ⟨a, its, p, p1, p2⟩ := p; subst p
    cases e with
    | lst m =>
      unfold RawD at q
      obtain ⟨a', its', q, q1, q2⟩ := q
      cases q
      have := islist_inj p1 q1
      have e : its = its' := by simpa using congrArg Array.toList this
      subst e
      unfold eqD
      exact eqDs_same l m its p2 q2
    | tup m =>
      unfold RawD at q
      obtain ⟨a', its', q, q1, q2⟩ := q
      cases q
      exact (list_not_tup p1 q1).elim
    | _ => unfold RawD at q; first | (cases q; done) | (obtain ⟨_, q⟩ := q; cases q; done) | exact q.elim
  | .tup l, e, u, p, q => by
    unfold RawD at p; obtain ⟨a, its, p, p1, p2⟩ := p; subst p
    cases e with
    | tup m =>
      unfold RawD at q
      obtain ⟨a', its', q, q1, q2⟩ := q
      cases q
      have := istup_inj p1 q1
      have e : its = its' := by simpa using congrArg Array.toList this
      subst e
      unfold eqD
      exact eqDs_same l m its p2 q2
    | lst m =>
      unfold RawD at q
      obtain ⟨a', its', q, q1, q2⟩ := q
      cases q
      exact (list_not_tup q1 p1).elim
    | _ => unfold RawD at q; first | (cases q; done) | (obtain ⟨_, q⟩ := q; cases q; done) | exact q.elim
  | .dct _ _, _, _, p, _ => by unfold RawD at p; exact p.elim
  | .loc _, _, _, p, _ => by unfold RawD at p; exact p.elim
  | .sl _, _, _, p, _ => by unfold RawD at p; exact p.elim
  | .kd _ _, _, _, p, _ => by unfold RawD at p; exact p.elim
  | .scr _, _, _, p, _ => by unfold RawD at p; exact p.elim
theorem eqDs_same {h : Heap} : ∀ (l m : List D) (us : List Value), RawL h l us → RawL h m us → eqDs l m = true
  | [], m, us, p, q => by
    unfold RawL at p; subst p
    cases m with
    | nil => unfold eqDs; rfl
    | cons _ _ => unfold RawL at q; obtain ⟨_, _, q, _⟩ := q; cases q
  | d :: l, m, us, p, q => by
    unfold RawL at p
    obtain ⟨u, r, p, p1, p2⟩ := p
    subst p
    cases m with
    | nil => unfold RawL at q; cases q
    | cons e m =>
      unfold RawL at q
      obtain ⟨u', r', q, q1, q2⟩ := q
      cases q
      unfold eqDs
      rw [eqD_same d e u p1 q1, eqDs_same l m r p2 q2]; rfl
end
def pairD (xs ys : List D) (j : Nat) : Bool := match xs[j]?, ys[j]? with
  | some x, some y => eqD x y
  | _, _ => true
theorem eqDs_range : ∀ xs ys : List D, ((List.range (min xs.length ys.length)).all (pairD xs ys) && xs.length == ys.length) = eqDs xs ys
  | [], [] => by unfold eqDs; rfl
  | [], _ :: _ => by unfold eqDs; simp
  | _ :: _, [] => by unfold eqDs; simp
  | x :: xs, y :: ys => by
    have ih := eqDs_range xs ys
    unfold eqDs
    rw [← ih, List.length_cons, List.length_cons, Nat.succ_min_succ, List.range_succ_eq_map, List.all_cons, List.all_map]
    have e : (pairD (x :: xs) (y :: ys) ∘ Nat.succ) = pairD xs ys := by
      funext j; simp [pairD]
    rw [e]
    have e0 : pairD (x :: xs) (y :: ys) 0 = eqD x y := rfl
    rw [e0, Bool.and_assoc]
    congr 2
    simp
theorem eqDs_len {xs ys : List D} (h : xs.length = ys.length) : (List.range xs.length).all (pairD xs ys) = eqDs xs ys := by
  have := eqDs_range xs ys
  rw [← h, Nat.min_self] at this
  simpa using this
theorem eqDs_ne {xs ys : List D} (h : xs.length ≠ ys.length) : eqDs xs ys = false := by
  rw [← eqDs_range xs ys]; simp [h]
open SeqAt in
mutual
theorem eqAtD : ∀ (n : Nat) (d e : D) (A : Around) (s : Shared) (a b : Value), depOk n d = true → depOk n e = true → RawD s.heap d a → RawD s.heap e b → A.units + n < cLine → EqAt A s a b (eqD d e)
  | n, .non, e, A, s, a, b, hd, he, p, q, hu => by
    have hu0 : A.units < cLine := by omega
    unfold RawD at p; subst p
    cases e with
    | non => unfold RawD at q; subst q; unfold eqD; exact EqAt.same _
    | bl y => unfold RawD at q; subst q; unfold eqD; exact EqAt.none_bool y
    | int y => unfold RawD at q; obtain ⟨u, q⟩ := q; subst q; unfold eqD; exact EqAt.none_int y u
    | str y => unfold RawD at q; obtain ⟨u, q⟩ := q; subst q; unfold eqD; exact EqAt.none_str y u
    | lst m => unfold RawD at q; obtain ⟨_, _, q, q1, _⟩ := q; subst q; unfold eqD; exact EqAt.none_list q1 hu0
    | tup m => unfold RawD at q; obtain ⟨_, _, q, q1, _⟩ := q; subst q; unfold eqD; exact EqAt.none_tuple q1 hu0
    | dct _ _ => unfold RawD at q; exact q.elim
    | loc _ => unfold RawD at q; exact q.elim
    | sl _ => unfold RawD at q; exact q.elim
    | kd _ _ => unfold RawD at q; exact q.elim
    | scr _ => unfold RawD at q; exact q.elim
  | n, .bl x, e, A, s, a, b, hd, he, p, q, hu => by
    have hu0 : A.units < cLine := by omega
    unfold RawD at p; subst p
    cases e with
    | non => unfold RawD at q; subst q; unfold eqD; exact EqAt.bool_none x
    | bl y => unfold RawD at q; subst q; unfold eqD; exact EqAt.bool_bool x y
    | int y => unfold RawD at q; obtain ⟨u, q⟩ := q; subst q; unfold eqD; exact EqAt.bool_int x y u
    | str y => unfold RawD at q; obtain ⟨u, q⟩ := q; subst q; unfold eqD; exact EqAt.bool_str x y u
    | lst m => unfold RawD at q; obtain ⟨_, _, q, q1, _⟩ := q; subst q; unfold eqD; exact EqAt.bool_list x q1 hu0
    | tup m => unfold RawD at q; obtain ⟨_, _, q, q1, _⟩ := q; subst q; unfold eqD; exact EqAt.bool_tuple x q1 hu0
    | dct _ _ => unfold RawD at q; exact q.elim
    | loc _ => unfold RawD at q; exact q.elim
    | sl _ => unfold RawD at q; exact q.elim
    | kd _ _ => unfold RawD at q; exact q.elim
    | scr _ => unfold RawD at q; exact q.elim
  | n, .int x, e, A, s, a, b, hd, he, p, q, hu => by
    have hu0 : A.units < cLine := by omega
    unfold RawD at p; obtain ⟨t, p⟩ := p; subst p
    cases e with
    | non => unfold RawD at q; subst q; unfold eqD; exact EqAt.int_none x t
    | bl y => unfold RawD at q; subst q; unfold eqD; exact EqAt.int_bool x t y
    | int y => unfold RawD at q; obtain ⟨u, q⟩ := q; subst q; unfold eqD; exact EqAt.int_int x t y u
    | str y => unfold RawD at q; obtain ⟨u, q⟩ := q; subst q; unfold eqD; exact EqAt.int_str x t y u
    | lst m => unfold RawD at q; obtain ⟨_, _, q, q1, _⟩ := q; subst q; unfold eqD; exact EqAt.int_list x t q1 hu0
    | tup m => unfold RawD at q; obtain ⟨_, _, q, q1, _⟩ := q; subst q; unfold eqD; exact EqAt.int_tuple x t q1 hu0
    | dct _ _ => unfold RawD at q; exact q.elim
    | loc _ => unfold RawD at q; exact q.elim
    | sl _ => unfold RawD at q; exact q.elim
    | kd _ _ => unfold RawD at q; exact q.elim
    | scr _ => unfold RawD at q; exact q.elim
  | n, .str x, e, A, s, a, b, hd, he, p, q, hu => by
    have hu0 : A.units < cLine := by omega
    unfold RawD at p; obtain ⟨t, p⟩ := p; subst p
    cases e with
    | non => unfold RawD at q; subst q; unfold eqD; exact EqAt.str_none x t
    | bl y => unfold RawD at q; subst q; unfold eqD; exact EqAt.str_bool x t y
    | int y => unfold RawD at q; obtain ⟨u, q⟩ := q; subst q; unfold eqD; exact EqAt.str_int x t y u
    | str y => unfold RawD at q; obtain ⟨u, q⟩ := q; subst q; unfold eqD; exact EqAt.str_str x t y u
    | lst m => unfold RawD at q; obtain ⟨_, _, q, q1, _⟩ := q; subst q; unfold eqD; exact EqAt.str_list x t q1 hu0
    | tup m => unfold RawD at q; obtain ⟨_, _, q, q1, _⟩ := q; subst q; unfold eqD; exact EqAt.str_tuple x t q1 hu0
    | dct _ _ => unfold RawD at q; exact q.elim
    | loc _ => unfold RawD at q; exact q.elim
    | sl _ => unfold RawD at q; exact q.elim
    | kd _ _ => unfold RawD at q; exact q.elim
    | scr _ => unfold RawD at q; exact q.elim
  | 0, .lst _, _, _, _, _, _, hd, _, _, _, _ => by unfold depOk at hd; cases hd
  | 0, .tup _, _, _, _, _, _, hd, _, _, _, _ => by unfold depOk at hd; cases hd
  | n + 1, .lst l, e, A, s, a, b, hd, he, p, q, hu => by
    have hu0 : A.units < cLine := by omega
    unfold RawD at p; obtain ⟨al, its, p, p1, p2⟩ := p; subst p
    cases e with
    | lst m =>
      unfold RawD at q
      obtain ⟨bl, its', q, q1, q2⟩ := q
      subst q
      unfold depOk at hd he
      by_cases z : al = bl
      · subst z
        have e1 := islist_inj p1 q1
        have e : its = its' := by simpa using congrArg Array.toList e1
        subst e
        unfold eqD
        rw [eqDs_same l m its p2 q2]
        exact EqAt.same _
      · have n1 := p2.length
        have n2 := q2.length
        unfold eqD
        by_cases hs : its.length = its'.length
        · rw [← eqDs_len (by omega : l.length = m.length), ← n1]
          have := RcAt.lists (e := pairD l m) p1 q1 (by simpa using hs) hu0 fun j j1 j2 => by
            have := eqAtDs n l m A.in1 s its its' hd he p2 q2 (by show A.units + 1 + n < cLine; omega) j (by simpa using j1) (by simpa using j2)
            simpa using this
          exact EqAt.of_refs z (by simpa using this)
        · rw [eqDs_ne (by omega : l.length ≠ m.length)]
          exact EqAt.of_refs z (RcAt.lists_lengths p1 q1 (by simpa using hs) hu0)
    | tup m =>
      unfold RawD at q
      obtain ⟨bl, its', q, q1, q2⟩ := q
      subst q
      unfold eqD
      exact EqAt.list_tuple p1 q1 hu0
    | non => unfold RawD at q; cases q; unfold eqD; exact EqAt.list_none p1 hu0
    | bl _ => unfold RawD at q; cases q; unfold eqD; exact EqAt.list_bool _ p1 hu0
    | int _ => unfold RawD at q; obtain ⟨_, q⟩ := q; cases q; unfold eqD; exact EqAt.list_int _ _ p1 hu0
    | str _ => unfold RawD at q; obtain ⟨_, q⟩ := q; cases q; unfold eqD; exact EqAt.list_str _ _ p1 hu0
    | _ => unfold RawD at q; exact q.elim
  | n + 1, .tup l, e, A, s, a, b, hd, he, p, q, hu => by
    have hu0 : A.units < cLine := by omega
    unfold RawD at p; obtain ⟨al, its, p, p1, p2⟩ := p; subst p
    cases e with
    | tup m =>
      unfold RawD at q
      obtain ⟨bl, its', q, q1, q2⟩ := q
      subst q
      unfold depOk at hd he
      by_cases z : al = bl
      · subst z
        have e1 := istup_inj p1 q1
        have e : its = its' := by simpa using congrArg Array.toList e1
        subst e
        unfold eqD
        rw [eqDs_same l m its p2 q2]
        exact EqAt.same _
      · have n1 := p2.length
        have n2 := q2.length
        unfold eqD
        rw [← eqDs_range l m, ← n1, ← n2]
        have := RcAt.tuples (e := pairD l m) p1 q1 hu0 fun j j1 j2 => by
          have := eqAtDs n l m A.in1 s its its' hd he p2 q2 (by show A.units + 1 + n < cLine; omega) j (by simpa using j1) (by simpa using j2)
          simpa using this
        exact EqAt.of_refs z (by simpa using this)
    | lst m =>
      unfold RawD at q
      obtain ⟨bl, its', q, q1, q2⟩ := q
      subst q
      unfold eqD
      exact EqAt.tuple_list p1 q1 hu0
    | non => unfold RawD at q; cases q; unfold eqD; exact EqAt.tuple_none p1 hu0
    | bl _ => unfold RawD at q; cases q; unfold eqD; exact EqAt.tuple_bool _ p1 hu0
    | int _ => unfold RawD at q; obtain ⟨_, q⟩ := q; cases q; unfold eqD; exact EqAt.tuple_int _ _ p1 hu0
    | str _ => unfold RawD at q; obtain ⟨_, q⟩ := q; cases q; unfold eqD; exact EqAt.tuple_str _ _ p1 hu0
    | _ => unfold RawD at q; exact q.elim
  | _, .dct _ _, _, _, _, _, _, _, _, p, _, _ => by unfold RawD at p; exact p.elim
  | _, .loc _, _, _, _, _, _, _, _, p, _, _ => by unfold RawD at p; exact p.elim
  | _, .sl _, _, _, _, _, _, _, _, p, _, _ => by unfold RawD at p; exact p.elim
  | _, .kd _ _, _, _, _, _, _, _, _, p, _, _ => by unfold RawD at p; exact p.elim
  | _, .scr _, _, _, _, _, _, _, _, p, _, _ => by unfold RawD at p; exact p.elim
theorem eqAtDs : ∀ (n : Nat) (xs ys : List D) (A : Around) (s : Shared) (vs ws : List Value), depOks n xs = true → depOks n ys = true → RawL s.heap xs vs → RawL s.heap ys ws → A.units + n < cLine →
    ∀ j (h1 : j < vs.length) (h2 : j < ws.length), EqAt A s vs[j] ws[j] (pairD xs ys j)
  | _, [], _, _, _, _, _, _, _, p, _, _, j, h1, _ => by unfold RawL at p; subst p; exact absurd h1 (Nat.not_lt_zero _)
  | _, _ :: _, [], _, _, _, _, _, _, _, q, _, j, _, h2 => by unfold RawL at q; subst q; exact absurd h2 (Nat.not_lt_zero _)
  | n, x :: xs, y :: ys, A, s, vs, ws, hd, he, p, q, hu, j, h1, h2 => by
    unfold RawL at p q
    obtain ⟨u, r, p, p1, p2⟩ := p
    obtain ⟨u', r', q, q1, q2⟩ := q
    subst p
    subst q
    unfold depOks at hd he
    have hd' : depOk n x = true ∧ depOks n xs = true := by simpa using hd
    have he' : depOk n y = true ∧ depOks n ys = true := by simpa using he
    cases j with
    | zero => exact eqAtD n x y A s u u' hd'.1 he'.1 p1 q1 hu
    | succ j => exact eqAtDs n xs ys A s r r' hd'.2 he'.2 p2 q2 hu j (Nat.lt_of_succ_lt_succ h1) (Nat.lt_of_succ_lt_succ h2)
end
open SeqAt in
theorem rcAtD (n : Nat) (d e : D) (A : Around) (s : Shared) (a b : Value) (hd : depOk (n + 1) d = true) (he : depOk (n + 1) e = true) (p : RawD s.heap d a) (q : RawD s.heap e b) (hu : A.units + (n + 1) < cLine) : RcAt A s a b (eqD d e) := by
  have hu0 : A.units < cLine := by omega
  cases d with
  | non =>
    unfold RawD at p; subst p
    cases e with
    | non => unfold RawD at q; subst q; unfold eqD; exact RcAt.none_none
    | bl y => unfold RawD at q; subst q; unfold eqD; exact RcAt.none_bool y
    | int y => unfold RawD at q; obtain ⟨u, q⟩ := q; subst q; unfold eqD; exact RcAt.none_int y u
    | str y => unfold RawD at q; obtain ⟨u, q⟩ := q; subst q; unfold eqD; exact RcAt.none_str y u
    | lst m => unfold RawD at q; obtain ⟨_, _, q, q1, _⟩ := q; subst q; unfold eqD; exact RcAt.none_list q1 hu0
    | tup m => unfold RawD at q; obtain ⟨_, _, q, q1, _⟩ := q; subst q; unfold eqD; exact RcAt.none_tuple q1 hu0
    | dct _ _ => unfold RawD at q; exact q.elim
    | loc _ => unfold RawD at q; exact q.elim
    | sl _ => unfold RawD at q; exact q.elim
    | kd _ _ => unfold RawD at q; exact q.elim
    | scr _ => unfold RawD at q; exact q.elim
  | bl x =>
    unfold RawD at p; subst p
    cases e with
    | non => unfold RawD at q; subst q; unfold eqD; exact RcAt.bool_none x
    | bl y => unfold RawD at q; subst q; unfold eqD; exact RcAt.bool_bool x y
    | int y => unfold RawD at q; obtain ⟨u, q⟩ := q; subst q; unfold eqD; exact RcAt.bool_int x y u
    | str y => unfold RawD at q; obtain ⟨u, q⟩ := q; subst q; unfold eqD; exact RcAt.bool_str x y u
    | lst m => unfold RawD at q; obtain ⟨_, _, q, q1, _⟩ := q; subst q; unfold eqD; exact RcAt.bool_list x q1 hu0
    | tup m => unfold RawD at q; obtain ⟨_, _, q, q1, _⟩ := q; subst q; unfold eqD; exact RcAt.bool_tuple x q1 hu0
    | dct _ _ => unfold RawD at q; exact q.elim
    | loc _ => unfold RawD at q; exact q.elim
    | sl _ => unfold RawD at q; exact q.elim
    | kd _ _ => unfold RawD at q; exact q.elim
    | scr _ => unfold RawD at q; exact q.elim
  | int x =>
    unfold RawD at p; obtain ⟨t, p⟩ := p; subst p
    cases e with
    | non => unfold RawD at q; subst q; unfold eqD; exact RcAt.int_none x t
    | bl y => unfold RawD at q; subst q; unfold eqD; exact RcAt.int_bool x t y
    | int y => unfold RawD at q; obtain ⟨u, q⟩ := q; subst q; unfold eqD; exact RcAt.int_int x t y u
    | str y => unfold RawD at q; obtain ⟨u, q⟩ := q; subst q; unfold eqD; exact RcAt.int_str x t y u
    | lst m => unfold RawD at q; obtain ⟨_, _, q, q1, _⟩ := q; subst q; unfold eqD; exact RcAt.int_list x t q1 hu0
    | tup m => unfold RawD at q; obtain ⟨_, _, q, q1, _⟩ := q; subst q; unfold eqD; exact RcAt.int_tuple x t q1 hu0
    | dct _ _ => unfold RawD at q; exact q.elim
    | loc _ => unfold RawD at q; exact q.elim
    | sl _ => unfold RawD at q; exact q.elim
    | kd _ _ => unfold RawD at q; exact q.elim
    | scr _ => unfold RawD at q; exact q.elim
  | str x =>
    unfold RawD at p; obtain ⟨t, p⟩ := p; subst p
    cases e with
    | non => unfold RawD at q; subst q; unfold eqD; exact RcAt.str_none x t
    | bl y => unfold RawD at q; subst q; unfold eqD; exact RcAt.str_bool x t y
    | int y => unfold RawD at q; obtain ⟨u, q⟩ := q; subst q; unfold eqD; exact RcAt.str_int x t y u
    | str y => unfold RawD at q; obtain ⟨u, q⟩ := q; subst q; unfold eqD; exact RcAt.str_str x t y u
    | lst m => unfold RawD at q; obtain ⟨_, _, q, q1, _⟩ := q; subst q; unfold eqD; exact RcAt.str_list x t q1 hu0
    | tup m => unfold RawD at q; obtain ⟨_, _, q, q1, _⟩ := q; subst q; unfold eqD; exact RcAt.str_tuple x t q1 hu0
    | dct _ _ => unfold RawD at q; exact q.elim
    | loc _ => unfold RawD at q; exact q.elim
    | sl _ => unfold RawD at q; exact q.elim
    | kd _ _ => unfold RawD at q; exact q.elim
    | scr _ => unfold RawD at q; exact q.elim
  | lst l =>
    unfold RawD at p; obtain ⟨al, its, p, p1, p2⟩ := p; subst p
    cases e with
    | non => unfold RawD at q; subst q; unfold eqD; exact RcAt.list_none p1 hu0
    | bl y => unfold RawD at q; subst q; unfold eqD; exact RcAt.list_bool _ p1 hu0
    | int y => unfold RawD at q; obtain ⟨u, q⟩ := q; subst q; unfold eqD; exact RcAt.list_int _ _ p1 hu0
    | str y => unfold RawD at q; obtain ⟨u, q⟩ := q; subst q; unfold eqD; exact RcAt.list_str _ _ p1 hu0
    | tup m => unfold RawD at q; obtain ⟨_, _, q, q1, _⟩ := q; subst q; unfold eqD; exact RcAt.list_tuple p1 q1 hu0
    | lst m =>
      unfold RawD at q
      obtain ⟨bl, its', q, q1, q2⟩ := q
      subst q
      unfold depOk at hd he
      have n1 := p2.length
      have n2 := q2.length
      have hee : ∀ j (j1 : j < its.toArray.size) (j2 : j < its'.toArray.size), EqAt A.in1 s its.toArray[j] its'.toArray[j] (pairD l m j) := fun j j1 j2 => by
        have := eqAtDs n l m A.in1 s its its' hd he p2 q2 (by show A.units + 1 + n < cLine; omega) j (by simpa using j1) (by simpa using j2)
        simpa using this
      unfold eqD
      by_cases hs : its.length = its'.length
      · rw [← eqDs_len (by omega : l.length = m.length), ← n1]
        have := RcAt.lists p1 q1 (by simpa using hs) hu0 hee
        simpa using this
      · rw [eqDs_ne (by omega : l.length ≠ m.length)]
        exact RcAt.lists_lengths p1 q1 (by simpa using hs) hu0
    | dct _ _ => unfold RawD at q; exact q.elim
    | loc _ => unfold RawD at q; exact q.elim
    | sl _ => unfold RawD at q; exact q.elim
    | kd _ _ => unfold RawD at q; exact q.elim
    | scr _ => unfold RawD at q; exact q.elim
  | tup l =>
    unfold RawD at p; obtain ⟨al, its, p, p1, p2⟩ := p; subst p
    cases e with
    | non => unfold RawD at q; subst q; unfold eqD; exact RcAt.tuple_none p1 hu0
    | bl y => unfold RawD at q; subst q; unfold eqD; exact RcAt.tuple_bool _ p1 hu0
    | int y => unfold RawD at q; obtain ⟨u, q⟩ := q; subst q; unfold eqD; exact RcAt.tuple_int _ _ p1 hu0
    | str y => unfold RawD at q; obtain ⟨u, q⟩ := q; subst q; unfold eqD; exact RcAt.tuple_str _ _ p1 hu0
    | lst m => unfold RawD at q; obtain ⟨_, _, q, q1, _⟩ := q; subst q; unfold eqD; exact RcAt.tuple_list p1 q1 hu0
    | tup m =>
      unfold RawD at q
      obtain ⟨bl, its', q, q1, q2⟩ := q
      subst q
      unfold depOk at hd he
      have n1 := p2.length
      have n2 := q2.length
      have hee : ∀ j (j1 : j < its.toArray.size) (j2 : j < its'.toArray.size), EqAt A.in1 s its.toArray[j] its'.toArray[j] (pairD l m j) := fun j j1 j2 => by
        have := eqAtDs n l m A.in1 s its its' hd he p2 q2 (by show A.units + 1 + n < cLine; omega) j (by simpa using j1) (by simpa using j2)
        simpa using this
      unfold eqD
      rw [← eqDs_range l m, ← n1, ← n2]
      have := RcAt.tuples p1 q1 hu0 hee
      simpa using this
    | dct _ _ => unfold RawD at q; exact q.elim
    | loc _ => unfold RawD at q; exact q.elim
    | sl _ => unfold RawD at q; exact q.elim
    | kd _ _ => unfold RawD at q; exact q.elim
    | scr _ => unfold RawD at q; exact q.elim
  | dct _ _ => unfold RawD at p; exact p.elim
  | loc _ => unfold RawD at p; exact p.elim
  | sl _ => unfold RawD at p; exact p.elim
  | kd _ _ => unfold RawD at p; exact p.elim
  | scr _ => unfold RawD at p; exact p.elim
open SeqAt in
theorem rcNeAtD (n : Nat) (d e : D) (A : Around) (s : Shared) (a b : Value) (hd : depOk (n + 1) d = true) (he : depOk (n + 1) e = true) (p : RawD s.heap d a) (q : RawD s.heap e b) (hu : A.units + (n + 1) < cLine) : RcNeAt A s a b (!eqD d e) := by
  have hu0 : A.units < cLine := by omega
  cases d with
  | non =>
    unfold RawD at p; subst p
    cases e with
    | non => unfold RawD at q; subst q; unfold eqD; exact RcNeAt.none_none
    | bl y => unfold RawD at q; subst q; unfold eqD; exact RcNeAt.none_bool y
    | int y => unfold RawD at q; obtain ⟨u, q⟩ := q; subst q; unfold eqD; exact RcNeAt.none_int y u
    | str y => unfold RawD at q; obtain ⟨u, q⟩ := q; subst q; unfold eqD; exact RcNeAt.none_str y u
    | lst m => unfold RawD at q; obtain ⟨_, _, q, q1, _⟩ := q; subst q; unfold eqD; exact RcNeAt.none_list q1 hu0
    | tup m => unfold RawD at q; obtain ⟨_, _, q, q1, _⟩ := q; subst q; unfold eqD; exact RcNeAt.none_tuple q1 hu0
    | dct _ _ => unfold RawD at q; exact q.elim
    | loc _ => unfold RawD at q; exact q.elim
    | sl _ => unfold RawD at q; exact q.elim
    | kd _ _ => unfold RawD at q; exact q.elim
    | scr _ => unfold RawD at q; exact q.elim
  | bl x =>
    unfold RawD at p; subst p
    cases e with
    | non => unfold RawD at q; subst q; unfold eqD; exact RcNeAt.bool_none x
    | bl y => unfold RawD at q; subst q; unfold eqD; exact RcNeAt.bool_bool x y
    | int y => unfold RawD at q; obtain ⟨u, q⟩ := q; subst q; unfold eqD; exact RcNeAt.bool_int x y u
    | str y => unfold RawD at q; obtain ⟨u, q⟩ := q; subst q; unfold eqD; exact RcNeAt.bool_str x y u
    | lst m => unfold RawD at q; obtain ⟨_, _, q, q1, _⟩ := q; subst q; unfold eqD; exact RcNeAt.bool_list x q1 hu0
    | tup m => unfold RawD at q; obtain ⟨_, _, q, q1, _⟩ := q; subst q; unfold eqD; exact RcNeAt.bool_tuple x q1 hu0
    | dct _ _ => unfold RawD at q; exact q.elim
    | loc _ => unfold RawD at q; exact q.elim
    | sl _ => unfold RawD at q; exact q.elim
    | kd _ _ => unfold RawD at q; exact q.elim
    | scr _ => unfold RawD at q; exact q.elim
  | int x =>
    unfold RawD at p; obtain ⟨t, p⟩ := p; subst p
    cases e with
    | non => unfold RawD at q; subst q; unfold eqD; exact RcNeAt.int_none x t
    | bl y => unfold RawD at q; subst q; unfold eqD; exact RcNeAt.int_bool x t y
    | int y => unfold RawD at q; obtain ⟨u, q⟩ := q; subst q; unfold eqD; exact RcNeAt.int_int x t y u
    | str y => unfold RawD at q; obtain ⟨u, q⟩ := q; subst q; unfold eqD; exact RcNeAt.int_str x t y u
    | lst m => unfold RawD at q; obtain ⟨_, _, q, q1, _⟩ := q; subst q; unfold eqD; exact RcNeAt.int_list x t q1 hu0
    | tup m => unfold RawD at q; obtain ⟨_, _, q, q1, _⟩ := q; subst q; unfold eqD; exact RcNeAt.int_tuple x t q1 hu0
    | dct _ _ => unfold RawD at q; exact q.elim
    | loc _ => unfold RawD at q; exact q.elim
    | sl _ => unfold RawD at q; exact q.elim
    | kd _ _ => unfold RawD at q; exact q.elim
    | scr _ => unfold RawD at q; exact q.elim
  | str x =>
    unfold RawD at p; obtain ⟨t, p⟩ := p; subst p
    cases e with
    | non => unfold RawD at q; subst q; unfold eqD; exact RcNeAt.str_none x t
    | bl y => unfold RawD at q; subst q; unfold eqD; exact RcNeAt.str_bool x t y
    | int y => unfold RawD at q; obtain ⟨u, q⟩ := q; subst q; unfold eqD; exact RcNeAt.str_int x t y u
    | str y => unfold RawD at q; obtain ⟨u, q⟩ := q; subst q; unfold eqD; exact RcNeAt.str_str x t y u
    | lst m => unfold RawD at q; obtain ⟨_, _, q, q1, _⟩ := q; subst q; unfold eqD; exact RcNeAt.str_list x t q1 hu0
    | tup m => unfold RawD at q; obtain ⟨_, _, q, q1, _⟩ := q; subst q; unfold eqD; exact RcNeAt.str_tuple x t q1 hu0
    | dct _ _ => unfold RawD at q; exact q.elim
    | loc _ => unfold RawD at q; exact q.elim
    | sl _ => unfold RawD at q; exact q.elim
    | kd _ _ => unfold RawD at q; exact q.elim
    | scr _ => unfold RawD at q; exact q.elim
  | lst l =>
    unfold RawD at p; obtain ⟨al, its, p, p1, p2⟩ := p; subst p
    cases e with
    | non => unfold RawD at q; subst q; unfold eqD; exact RcNeAt.list_none p1 hu0
    | bl y => unfold RawD at q; subst q; unfold eqD; exact RcNeAt.list_bool _ p1 hu0
    | int y => unfold RawD at q; obtain ⟨u, q⟩ := q; subst q; unfold eqD; exact RcNeAt.list_int _ _ p1 hu0
    | str y => unfold RawD at q; obtain ⟨u, q⟩ := q; subst q; unfold eqD; exact RcNeAt.list_str _ _ p1 hu0
    | tup m => unfold RawD at q; obtain ⟨_, _, q, q1, _⟩ := q; subst q; unfold eqD; exact RcNeAt.list_tuple p1 q1 hu0
    | lst m =>
      unfold RawD at q
      obtain ⟨bl, its', q, q1, q2⟩ := q
      subst q
      unfold depOk at hd he
      have n1 := p2.length
      have n2 := q2.length
      have hee : ∀ j (j1 : j < its.toArray.size) (j2 : j < its'.toArray.size), EqAt A.in1 s its.toArray[j] its'.toArray[j] (pairD l m j) := fun j j1 j2 => by
        have := eqAtDs n l m A.in1 s its its' hd he p2 q2 (by show A.units + 1 + n < cLine; omega) j (by simpa using j1) (by simpa using j2)
        simpa using this
      unfold eqD
      by_cases hs : its.length = its'.length
      · rw [← eqDs_len (by omega : l.length = m.length), ← n1]
        have := RcNeAt.lists p1 q1 (by simpa using hs) hu0 hee
        simpa using this
      · rw [eqDs_ne (by omega : l.length ≠ m.length)]
        exact RcNeAt.lists_lengths p1 q1 (by simpa using hs) hu0
    | dct _ _ => unfold RawD at q; exact q.elim
    | loc _ => unfold RawD at q; exact q.elim
    | sl _ => unfold RawD at q; exact q.elim
    | kd _ _ => unfold RawD at q; exact q.elim
    | scr _ => unfold RawD at q; exact q.elim
  | tup l =>
    unfold RawD at p; obtain ⟨al, its, p, p1, p2⟩ := p; subst p
    cases e with
    | non => unfold RawD at q; subst q; unfold eqD; exact RcNeAt.tuple_none p1 hu0
    | bl y => unfold RawD at q; subst q; unfold eqD; exact RcNeAt.tuple_bool _ p1 hu0
    | int y => unfold RawD at q; obtain ⟨u, q⟩ := q; subst q; unfold eqD; exact RcNeAt.tuple_int _ _ p1 hu0
    | str y => unfold RawD at q; obtain ⟨u, q⟩ := q; subst q; unfold eqD; exact RcNeAt.tuple_str _ _ p1 hu0
    | lst m => unfold RawD at q; obtain ⟨_, _, q, q1, _⟩ := q; subst q; unfold eqD; exact RcNeAt.tuple_list p1 q1 hu0
    | tup m =>
      unfold RawD at q
      obtain ⟨bl, its', q, q1, q2⟩ := q
      subst q
      unfold depOk at hd he
      have n1 := p2.length
      have n2 := q2.length
      have hee : ∀ j (j1 : j < its.toArray.size) (j2 : j < its'.toArray.size), EqAt A.in1 s its.toArray[j] its'.toArray[j] (pairD l m j) := fun j j1 j2 => by
        have := eqAtDs n l m A.in1 s its its' hd he p2 q2 (by show A.units + 1 + n < cLine; omega) j (by simpa using j1) (by simpa using j2)
        simpa using this
      unfold eqD
      rw [← eqDs_range l m, ← n1, ← n2]
      have := RcNeAt.tuples p1 q1 hu0 hee
      simpa using this
    | dct _ _ => unfold RawD at q; exact q.elim
    | loc _ => unfold RawD at q; exact q.elim
    | sl _ => unfold RawD at q; exact q.elim
    | kd _ _ => unfold RawD at q; exact q.elim
    | scr _ => unfold RawD at q; exact q.elim
  | dct _ _ => unfold RawD at p; exact p.elim
  | loc _ => unfold RawD at p; exact p.elim
  | sl _ => unfold RawD at p; exact p.elim
  | kd _ _ => unfold RawD at p; exact p.elim
  | scr _ => unfold RawD at p; exact p.elim

/-! ### data as they stand -/
mutual
theorem rep_in {K : Kw} {G H : Hp} {α α' : Al} (sub : ∀ a o, G a = some o → H a = some o) : ∀ (n : Nat) (d : D) (v : V), depOk n d = true → Rep K G α d v → Rep K H α' d v
  | _, .non, _, _, h => h
  | _, .bl _, _, _, h => h
  | _, .int _, _, _, h => h
  | _, .str _, _, _, h => h
  | n + 1, .lst l, _, o, h => by
    unfold depOk at o
    unfold Rep at h ⊢
    obtain ⟨a, xs, e, q, r⟩ := h
    exact ⟨a, xs, e, sub _ _ q, rep_ins sub n l xs o r⟩
  | n + 1, .tup l, _, o, h => by
    unfold depOk at o
    unfold Rep at h ⊢
    obtain ⟨a, xs, e, q, r⟩ := h
    exact ⟨a, xs, e, SqT.sub q sub, rep_ins sub n l xs o r⟩
  | 0, .lst _, _, o, _ => by unfold depOk at o; cases o
  | 0, .tup _, _, o, _ => by unfold depOk at o; cases o
  | _, .dct _ _, _, o, _ => by unfold depOk at o; cases o
  | _, .loc _, _, o, _ => by unfold depOk at o; cases o
  | _, .sl _, _, o, _ => by unfold depOk at o; cases o
  | _, .kd _ _, _, o, _ => by unfold depOk at o; cases o
  | _, .scr _, _, o, _ => by unfold depOk at o; cases o
theorem rep_ins {K : Kw} {G H : Hp} {α α' : Al} (sub : ∀ a o, G a = some o → H a = some o) : ∀ (n : Nat) (l : List D) (vs : List V), depOks n l = true → RepL K G α l vs → RepL K H α' l vs
  | _, [], _, _, h => by unfold RepL at h ⊢; exact h
  | n, d :: l, vs, o, h => by
    unfold depOks at o
    have o' : depOk n d = true ∧ depOks n l = true := by simpa using o
    unfold RepL at h ⊢
    obtain ⟨x, r, e, h1, h2⟩ := h
    exact ⟨x, r, e, rep_in sub n d x o'.1 h1, rep_ins sub n l r o'.2 h2⟩
end
theorem repB_in {K : Kw} {G H : Hp} {α α' : Al} (sub : ∀ a o, G a = some o → H a = some o) (n : Nat) (d : D) (v : V) (o : depOk n d = true) (h : RepB K H G α d v) : Rep K H α' d v := by
  cases d with
  | lst l =>
    cases n with
    | zero => unfold depOk at o; cases o
    | succ n =>
      unfold depOk at o
      obtain ⟨a, xs, e, q, r⟩ := h
      unfold Rep
      exact ⟨a, xs, e, q, rep_ins sub n l xs o r⟩
  | dct _ _ => unfold depOk at o; cases o
  | _ => exact rep_in (α := α) sub n _ v o (by unfold RepB at h; exact h)
mutual
theorem raw_of {X : Cx} {pins : List (Addr × Obj)} {σ : L2.St} {H : Hp} {s : Shared} {α : Al} (I : Inv X pins σ H s) : ∀ (n : Nat) (d : D) (v : V) (u : Value), depOk n d = true → Rep ⟨X.K, X.w⟩ H α d v → RelV v u → RawD s.heap d u
  | _, .non, _, _, _, h, r => by unfold Rep at h; subst h; unfold RawD; exact r
  | _, .bl _, _, _, _, h, r => by unfold Rep at h; subst h; unfold RawD; exact r
  | _, .int _, _, _, _, h, r => by unfold Rep at h; subst h; unfold RawD; exact r
  | _, .str _, _, _, _, h, r => by unfold Rep at h; subst h; unfold RawD; exact r
  | n + 1, .lst l, _, _, o, h, r => by
    unfold depOk at o
    unfold Rep at h
    obtain ⟨a, xs, e, q, h⟩ := h
    subst e
    unfold RawD
    obtain ⟨its, rv, ⟨ob, n', e1, e2, _, e3⟩, _⟩ := I.list (SqL.of q)
    exact ⟨a, its, r, ⟨ob, e1, e2, n', e3⟩, raw_ofs I n l xs its o h rv⟩
  | n + 1, .tup l, _, _, o, h, r => by
    unfold depOk at o
    unfold Rep at h
    obtain ⟨a, xs, e, q, h⟩ := h
    subst e
    unfold RawD
    obtain ⟨its, rv, t, _⟩ := I.tuple q
    exact ⟨a, its, r, t, raw_ofs I n l xs its o h rv⟩
  | 0, .lst _, _, _, o, _, _ => by unfold depOk at o; cases o
  | 0, .tup _, _, _, o, _, _ => by unfold depOk at o; cases o
  | _, .dct _ _, _, _, o, _, _ => by unfold depOk at o; cases o
  | _, .loc _, _, _, o, _, _ => by unfold depOk at o; cases o
  | _, .sl _, _, _, o, _, _ => by unfold depOk at o; cases o
  | _, .kd _ _, _, _, o, _, _ => by unfold depOk at o; cases o
  | _, .scr _, _, _, o, _, _ => by unfold depOk at o; cases o
theorem raw_ofs {X : Cx} {pins : List (Addr × Obj)} {σ : L2.St} {H : Hp} {s : Shared} {α : Al} (I : Inv X pins σ H s) : ∀ (n : Nat) (l : List D) (vs : List V) (us : List Value), depOks n l = true → RepL ⟨X.K, X.w⟩ H α l vs → Vals vs us → RawL s.heap l us
  | _, [], _, _, _, h, r => by unfold RepL at h; subst h; cases r; unfold RawL; rfl
  | n, d :: l, vs, us, o, h, r => by
    unfold depOks at o
    have o' : depOk n d = true ∧ depOks n l = true := by simpa using o
    unfold RepL at h
    obtain ⟨x, t, e, h1, h2⟩ := h
    subst e
    cases r with
    | cons r rs =>
      unfold RawL
      exact ⟨_, _, rfl, raw_of I n d x _ o'.1 h1 r, raw_ofs I n l t _ o'.2 h2 rs⟩
end
def noAl : Al := fun _ => none
def rEqX (X : Cx) : R2 := fun x y H Q => ∃ a b, Rep ⟨X.K, X.w⟩ H noAl a x ∧ Rep ⟨X.K, X.w⟩ H noAl b y ∧ depOk 60 a = true ∧ depOk 60 b = true ∧ Q (.bl (eqD a b)) H
def rNeX (X : Cx) : R2 := fun x y H Q => ∃ a b, Rep ⟨X.K, X.w⟩ H noAl a x ∧ Rep ⟨X.K, X.w⟩ H noAl b y ∧ depOk 60 a = true ∧ depOk 60 b = true ∧ Q (.bl (!eqD a b)) H
theorem op_eqX {X : Cx} (hu : X.A.units + 64 < cLine) : OpR X (compareOp .Eq) (rEqX X) := by
  intro pins s σ H x y v u Q I rx ry h
  obtain ⟨a, b, ra, rb, da, db, q⟩ := h
  exact rcAtD 59 a b X.A s v u da db (raw_of I 60 a x v da ra rx) (raw_of I 60 b y u db rb ry) (by omega) X.prog X.w X.xe (EP X pins σ Q) ⟨.bl _, H, I, rfl, q⟩
theorem op_neX {X : Cx} (hu : X.A.units + 64 < cLine) : OpR X (compareOp .NotEq) (rNeX X) := by
  intro pins s σ H x y v u Q I rx ry h
  obtain ⟨a, b, ra, rb, da, db, q⟩ := h
  exact rcNeAtD 59 a b X.A s v u da db (raw_of I 60 a x v da ra rx) (raw_of I 60 b y u db rb ry) (by omega) X.prog X.w X.xe (EP X pins σ Q) ⟨.bl _, H, I, rfl, q⟩
end BZ
end
section
set_option Elab.async false
set_option linter.all false
set_option maxRecDepth 100000
set_option maxHeartbeats 1000000
namespace BZ
open PySem PySem.Spec PyProof.Rows L2

abbrev kw (X : Cx) : Kw := ⟨X.K, X.w⟩
/-- what is kept of an exception -/
def ExV (mg : Str → Option Value) (K : Kw) (x : Exn) (cls : Value) (dx : Option Addr) (H : Hp) : Prop :=
  mg (Str.ofString x.cls) = some cls ∧ ∀ d, x.val = some d → ∃ a f v, dx = some a ∧ H a = some (.xd [(f, v)]) ∧ Rep K (fun _ => none) (fun _ => none) d v
abbrev ExR (X : Cx) (x : Exn) (cls : Value) (dx : Option Addr) (H : Hp) : Prop := ExV X.mg (kw X) x cls dx H
abbrev PP (β : Type) := β → E → Hp → Al → Prop
def okR {β : Type} (P : PP β) (Z : PP Exn) (G : Hp) (α : Al) : R β → Prop
  | .ok b ρ => P b ρ G α
  | .ex x ρ => Z x ρ G α
  | .no => False
def PV (X : Cx) (F : Frm) (σ : L2.St) (Q : VK) : PP D := fun d ρ G α => ∀ v H' G' α', W (kw X) F ρ G' α' σ H' → Ext G α G' α' → TRep (kw X) σ G' α' d v → Q v H'
def PB (X : Cx) (F : Frm) (σ : L2.St) (Q : Bool → Hp → Prop) : PP Bool := fun b ρ G α => ∀ H' G' α', W (kw X) F ρ G' α' σ H' → Ext G α G' α' → Q b H'
def PL (X : Cx) (F : Frm) (σ : L2.St) (Q : List V → Hp → Prop) : PP (List D) := fun ds ρ G α => ∀ vs H' G' α', W (kw X) F ρ G' α' σ H' → Ext G α G' α' → Paired (fun d v => TRep (kw X) σ G' α' d v) ds vs → Q vs H'
def PZ (X : Cx) (F : Frm) (Wx : WX) (σ : L2.St) : PP Exn := fun x ρ G α => ∀ cls dx H' G' α', W (kw X) F ρ G' α' σ H' → Ext G α G' α' → ExR X x cls dx H' → Wx cls dx σ H'
/-- what stands for more stands for less -/
def Anti {β : Type} (P : PP β) : Prop := ∀ b ρ G α G' α', Ext G α G' α' → P b ρ G α → P b ρ G' α'
theorem PV.anti {X : Cx} {F : Frm} {σ : L2.St} {Q : VK} : Anti (PV X F σ Q) := fun b ρ G α G' α' x h v H1 G1 α1 w y r => h v H1 G1 α1 w (x.trans y) r
theorem PB.anti {X : Cx} {F : Frm} {σ : L2.St} {Q : Bool → Hp → Prop} : Anti (PB X F σ Q) := fun b ρ G α G' α' x h H1 G1 α1 w y => h H1 G1 α1 w (x.trans y)
theorem PL.anti {X : Cx} {F : Frm} {σ : L2.St} {Q : List V → Hp → Prop} : Anti (PL X F σ Q) := fun b ρ G α G' α' x h v H1 G1 α1 w y r => h v H1 G1 α1 w (x.trans y) r
theorem PZ.anti {X : Cx} {F : Frm} {Wx : WX} {σ : L2.St} : Anti (PZ X F Wx σ) := fun b ρ G α G' α' x h c d H1 G1 α1 w y r => h c d H1 G1 α1 w (x.trans y) r
theorem okR.ext {β : Type} {P : PP β} {Z : PP Exn} {G G' : Hp} {α α' : Al} {r : R β} (hP : Anti P) (hZ : Anti Z) (x : Ext G α G' α') (h : okR P Z G α r) : okR P Z G' α' r := by
  cases r with
  | ok b ρ => exact hP _ _ _ _ _ _ x h
  | ex e ρ => exact hZ _ _ _ _ _ _ x h
  | no => exact h.elim
theorem bindM {α β : Type} (m : M α) (f : α → M β) (ρ : E) : (m >>= f) ρ = match m ρ with
  | .ok a e' => f a e'
  | .ex x e' => .ex x e'
  | .no => .no := rfl
theorem okR.bind {β γ : Type} {P : PP γ} {Z : PP Exn} {G : Hp} {α : Al} {m : M β} {f : β → M γ} {ρ : E} (h : okR P Z G α ((m >>= f) ρ)) : okR (fun b ρ' G' α' => okR P Z G' α' (f b ρ')) Z G α (m ρ) := by
  rw [bindM] at h
  cases e : m ρ with
  | ok b ρ' => rw [e] at h; exact h
  | ex x ρ' => rw [e] at h; exact h
  | no => rw [e] at h; exact h
theorem okR.imp {β : Type} {P P' : PP β} {Z : PP Exn} {G : Hp} {α : Al} {r : R β} (h : okR P Z G α r) (i : ∀ b ρ, P b ρ G α → P' b ρ G α) : okR P' Z G α r := by
  cases r with
  | ok b ρ => exact i _ _ h
  | ex e ρ => exact h
  | no => exact h.elim

def trE (X : Cx) (F : Frm) (Wx : WX) (m : M D) : TE := fun σ H Q => ∃ ρ G α, W (kw X) F ρ G α σ H ∧ okR (PV X F σ Q) (PZ X F Wx σ) G α (m ρ)
def trT (X : Cx) (F : Frm) (Wx : WX) (m : M Bool) : TT := fun σ H Q => ∃ ρ G α, W (kw X) F ρ G α σ H ∧ okR (PB X F σ Q) (PZ X F Wx σ) G α (m ρ)
def trA (X : Cx) (F : Frm) (Wx : WX) (m : M (List D)) : TA := fun σ H Q => ∃ ρ G α, W (kw X) F ρ G α σ H ∧ okR (PL X F σ Q) (PZ X F Wx σ) G α (m ρ)
abbrev PD (X : Cx) (F : Frm) (Wx : WX) (e : Expr) (m : M D) : Prop := PE X e (trE X F Wx m)
abbrev PDT (X : Cx) (F : Frm) (Wx : WX) (e : Expr) (m : M Bool) : Prop := PT X e (trT X F Wx m)
abbrev PDW (X : Cx) (F : Frm) (Wx : WX) (e : Expr) (m : M Bool) : Prop := PW X e (trT X F Wx m)
abbrev PDA (X : Cx) (F : Frm) (Wx : WX) (es : List Expr) (m : M (List D)) : Prop := PA X es (trA X F Wx m)

section
variable {X : Cx} {F : Frm} {Wx : WX} {e a b c : Expr} {es : List Expr} {pos : Pos}
theorem PE.imp' {t t' : TE} (h : PE X e t) (i : ∀ σ H Q, t' σ H Q → t σ H Q) : PE X e t' := ⟨fun pins s σ H Q I q => h.run pins s σ H Q I (i σ H Q q)⟩
theorem PT.imp' {t t' : TT} (h : PT X e t) (i : ∀ σ H Q, t' σ H Q → t σ H Q) : PT X e t' := ⟨fun pins s σ H Q I q => h.run pins s σ H Q I (i σ H Q q)⟩
theorem PW.imp' {t t' : TT} (h : PW X e t) (i : ∀ σ H Q, t' σ H Q → t σ H Q) : PW X e t' := ⟨fun wh pins s σ H Q I q => h.run wh pins s σ H Q I (i σ H Q q)⟩
theorem PA.imp' {t t' : TA} (h : PA X es t) (i : ∀ σ H Q, t' σ H Q → t σ H Q) : PA X es t' := ⟨fun ps pins s σ H Q I q => h.run ps pins s σ H Q I (i σ H Q q)⟩

/-- a part is reckoned, then the rest -/
theorem stepE {γ : Type} {P : PP γ} {m : M D} {f : D → M γ} {ρ : E} {G H : Hp} {α : Al} {σ : L2.St} {Q : VK} (hP : Anti P) (w : W (kw X) F ρ G α σ H) (h : okR P (PZ X F Wx σ) G α ((m >>= f) ρ))
    (k : ∀ d ρ' v H' G' α', W (kw X) F ρ' G' α' σ H' → Ext G α G' α' → TRep (kw X) σ G' α' d v → okR P (PZ X F Wx σ) G' α' (f d ρ') → Q v H') : trE X F Wx m σ H Q :=
  ⟨ρ, G, α, w, h.bind.imp fun d ρ' q v H' G' α' w' x r => k d ρ' v H' G' α' w' x r (q.ext hP PZ.anti x)⟩
theorem stepT {γ : Type} {P : PP γ} {m : M Bool} {f : Bool → M γ} {ρ : E} {G H : Hp} {α : Al} {σ : L2.St} {Q : Bool → Hp → Prop} (hP : Anti P) (w : W (kw X) F ρ G α σ H) (h : okR P (PZ X F Wx σ) G α ((m >>= f) ρ))
    (k : ∀ d ρ' H' G' α', W (kw X) F ρ' G' α' σ H' → Ext G α G' α' → okR P (PZ X F Wx σ) G' α' (f d ρ') → Q d H') : trT X F Wx m σ H Q :=
  ⟨ρ, G, α, w, h.bind.imp fun d ρ' q H' G' α' w' x => k d ρ' H' G' α' w' x (q.ext hP PZ.anti x)⟩
theorem stepA {γ : Type} {P : PP γ} {m : M (List D)} {f : List D → M γ} {ρ : E} {G H : Hp} {α : Al} {σ : L2.St} {Q : List V → Hp → Prop} (hP : Anti P) (w : W (kw X) F ρ G α σ H) (h : okR P (PZ X F Wx σ) G α ((m >>= f) ρ))
    (k : ∀ ds ρ' vs H' G' α', W (kw X) F ρ' G' α' σ H' → Ext G α G' α' → Paired (fun d v => TRep (kw X) σ G' α' d v) ds vs → okR P (PZ X F Wx σ) G' α' (f ds ρ') → Q vs H') : trA X F Wx m σ H Q :=
  ⟨ρ, G, α, w, h.bind.imp fun d ρ' q v H' G' α' w' x r => k d ρ' v H' G' α' w' x r (q.ext hP PZ.anti x)⟩

/-! ## names and constants -/
def rd (i : Nat) : M D := fun ρ => match ρ.sl[i]? with
  | some (.val d) => .ok d ρ
  | some (.own _) => .ok (.sl i) ρ
  | some (.lent _) => .ok (.sl i) ρ
  | _ => .no
theorem pd_var {i : Nat} {x : Str} (h : PE X (.Name x pos) (tVar i)) : PD X F Wx (.Name x pos) (rd i) :=
  PE.imp' h fun σ H Q ⟨ρ, G, α, w, h⟩ => by
    unfold rd at h
    cases e : ρ.sl[i]? with
    | none => rw [e] at h; exact h.elim
    | some s =>
      rw [e] at h
      cases s with
      | val d =>
        obtain ⟨v, h1, h2⟩ := w.slot i d e
        exact ⟨v, h1, h v H G α w Ext.refl (TRep.of h2)⟩
      | own d =>
        obtain ⟨a, h1, h2⟩ := w.own i d e
        exact ⟨_, h1, h _ H G α w Ext.refl h1⟩
      | lent d =>
        obtain ⟨a, h1, h2⟩ := w.lent i d e
        exact ⟨_, h1, h _ H G α w Ext.refl h1⟩
      | un => exact h.elim
abbrev ret {β : Type} (b : β) : M β := fun ρ => .ok b ρ
theorem pd_const {v : V} {d : D} (h : PE X e (tC v)) (r : ∀ G α, Rep (kw X) G α d v) : PD X F Wx e (ret d) :=
  PE.imp' h fun σ H Q ⟨ρ, G, α, w, h⟩ => h v H G α w Ext.refl (TRep.of (r G α))
theorem pd_int {i j} : PD X F Wx (.Constant (.int i) j pos) (ret (.int i)) := pd_const pe_int fun _ _ => by unfold Rep; rfl
theorem pd_bl {i j} : PD X F Wx (.Constant (.bool i) j pos) (ret (.bl i)) := pd_const pe_bl fun _ _ => by unfold Rep; rfl
theorem pd_str {i j} : PD X F Wx (.Constant (.str i) j pos) (ret (.str i)) := pd_const pe_str fun _ _ => by unfold Rep; rfl
theorem pd_non {j} : PD X F Wx (.Constant .none j pos) (ret .non) := pd_const pe_non fun _ _ => by unfold Rep; rfl

/-! ## values that may be kept -/
def pur (d : D) : M D := fun ρ => if d.plain then .ok d ρ else .no
/-! ## argument lists -/
theorem pda_nil : PDA X F Wx [] (ret []) := PA.imp' pa_nil fun σ H Q ⟨ρ, G, α, w, h⟩ => h [] H G α w Ext.refl .nil
theorem paired_ext {G G' : Hp} {α α' : Al} {σ : L2.St} {ds : List D} {vs : List V} {K : Kw} (x : Ext G α G' α') (h : Paired (fun d v => TRep K σ G α d v) ds vs) : Paired (fun d v => TRep K σ G' α' d v) ds vs := by
  induction h with
  | nil => exact .nil
  | cons a _ ih => exact .cons (TRep.ext x a) ih
theorem pda_cons {m : M D} {ms : M (List D)} (h : PD X F Wx e m) (hs : PDA X F Wx es ms) (hst : starEach (e :: es) X.env = (false, eval e X.env) :: starEach es X.env := by rfl) : PDA X F Wx (e :: es) (do let d ← m; let ds ← ms; ret (d :: ds)) :=
  PA.imp' (pa_cons h hs hst) fun σ H Q ⟨ρ, G, α, w, h⟩ => stepE PL.anti w h fun d ρ1 v H1 G1 α1 w1 x1 r1 h1 => stepA PL.anti w1 h1 fun ds ρ2 vs H2 G2 α2 w2 x2 r2 h2 =>
    h2 (v :: vs) H2 G2 α2 w2 Ext.refl (.cons (TRep.ext x2 r1) r2)
theorem rep_of_paired {K : Kw} {G : Hp} {α : Al} {σ : L2.St} : ∀ {ds : List D} {vs : List V}, Paired (fun d v => TRep K σ G α d v) ds vs → ds.all D.plain = true → RepL K G α ds vs
  | [], _, .nil, _ => RepL.nil
  | d :: ds, _, .cons r rs, h => by
    have h' : d.plain = true ∧ ds.all D.plain = true := by simpa using h
    exact RepL.cons (r.plain h'.1) (rep_of_paired rs h'.2)
/-- a display of a tuple, of a list -/
def mkTup (ds : List D) : M D := fun ρ => if ds.all D.plain && decide (ds.length ≤ 1000) then .ok (.tup ds) ρ else .no
def mkLst (ds : List D) : M D := fun ρ => if ds.all D.plain && decide (ds.length ≤ 1000) then .ok (.lst ds) ρ else .no
theorem alloc_tup {K : Kw} {F : Frm} {ρ : E} {G H : Hp} {α : Al} {σ : L2.St} {ds : List D} {vs : List V} {p : Addr} (w : W K F ρ G α σ H) (r : RepL K G α ds vs) (n : H p = none) :
    ∃ G', W K F ρ G' α σ (upd H p (.tup vs)) ∧ Ext G α G' α ∧ Rep K G' α (.tup ds) (.ref p) := by
  obtain ⟨w1, x⟩ := w.alloc (o := .tup vs) n
  refine ⟨_, w1, x, ?_⟩
  unfold Rep
  exact ⟨p, vs, rfl, .inl (.inl upd_same), RepL.ext x _ _ r⟩
theorem alloc_lst {K : Kw} {F : Frm} {ρ : E} {G H : Hp} {α : Al} {σ : L2.St} {ds : List D} {vs : List V} {p : Addr} (w : W K F ρ G α σ H) (r : RepL K G α ds vs) (n : H p = none) :
    ∃ G', W K F ρ G' α σ (upd H p (.lst vs)) ∧ Ext G α G' α ∧ Rep K G' α (.lst ds) (.ref p) := by
  obtain ⟨w1, x⟩ := w.alloc (o := .lst vs) n
  refine ⟨_, w1, x, ?_⟩
  unfold Rep
  exact ⟨p, vs, rfl, upd_same, RepL.ext x _ _ r⟩
theorem paired_len {α β : Type} {R : α → β → Prop} {l : List α} {m : List β} (h : Paired R l m) : l.length = m.length := by
  induction h with
  | nil => rfl
  | cons _ _ ih => simp [ih]
theorem pd_tup {ms : M (List D)} {k : Nat} (hs : PDA X F Wx es ms) : PD X F Wx (.Tuple es k pos) (ms >>= mkTup) :=
  PE.imp' (pe_tup hs) fun σ H Q ⟨ρ, G, α, w, h⟩ => stepA PV.anti w h fun ds ρ1 vs H1 G1 α1 w1 x1 r1 h1 => by
    unfold mkTup at h1
    by_cases hp : (ds.all D.plain && decide (ds.length ≤ 1000)) = true
    · rw [if_pos hp] at h1
      have hp' : ds.all D.plain = true ∧ ds.length ≤ 1000 := by simpa using hp
      refine ⟨?_, fun p np => ?_⟩
      · rw [← paired_len r1]; exact Nat.le_trans hp'.2 (by decide)
      · obtain ⟨G', w2, x2, r2⟩ := alloc_tup w1 (rep_of_paired r1 hp'.1) np
        exact h1 _ _ _ _ w2 x2 (TRep.of r2)
    · rw [if_neg hp] at h1; exact h1.elim
theorem pd_lst {ms : M (List D)} (hs : PDA X F Wx es ms) : PD X F Wx (.List es pos) (ms >>= mkLst) :=
  PE.imp' (pe_lst hs) fun σ H Q ⟨ρ, G, α, w, h⟩ => stepA PV.anti w h fun ds ρ1 vs H1 G1 α1 w1 x1 r1 h1 => by
    unfold mkLst at h1
    by_cases hp : (ds.all D.plain && decide (ds.length ≤ 1000)) = true
    · rw [if_pos hp] at h1
      have hp' : ds.all D.plain = true ∧ ds.length ≤ 1000 := by simpa using hp
      refine ⟨?_, fun p np => ?_⟩
      · rw [← paired_len r1]; exact Nat.le_trans hp'.2 (by decide)
      · obtain ⟨G', w2, x2, r2⟩ := alloc_lst w1 (rep_of_paired r1 hp'.1) np
        exact h1 _ _ _ _ w2 x2 (TRep.of r2)
    · rw [if_neg hp] at h1; exact h1.elim
end
end BZ
end
section
set_option Elab.async false
set_option linter.all false
set_option maxRecDepth 100000
set_option maxHeartbeats 1000000
namespace BZ
open PySem PySem.Spec PyProof.Rows L2

/-! ## operations on two values -/
def op2 (f : D → D → Option D) (x y : D) : M D := fun ρ => match deref ρ x, deref ρ y with
  | some a, some b => (match f a b with
    | some d => .ok d ρ
    | none => .no)
  | _, _ => .no
theorem op2_ok {f : D → D → Option D} {x y : D} {ρ : E} {P : PP D} {Z : PP Exn} {G : Hp} {α : Al} (h : okR P Z G α (op2 f x y ρ)) : ∃ a b d, deref ρ x = some a ∧ deref ρ y = some b ∧ f a b = some d ∧ P d ρ G α := by
  unfold op2 at h
  cases e1 : deref ρ x with
  | none => rw [e1] at h; exact h.elim
  | some a =>
    cases e2 : deref ρ y with
    | none => rw [e1, e2] at h; exact h.elim
    | some b =>
      rw [e1, e2] at h
      dsimp only at h
      cases e3 : f a b with
      | none => rw [e3] at h; exact h.elim
      | some d => rw [e3] at h; exact ⟨a, b, d, rfl, rfl, e3, h⟩
def op1 (f : D → Option D) (x : D) : M D := fun ρ => match deref ρ x with
  | some a => (match f a with
    | some d => .ok d ρ
    | none => .no)
  | _ => .no
theorem op1_ok {f : D → Option D} {x : D} {ρ : E} {P : PP D} {Z : PP Exn} {G : Hp} {α : Al} (h : okR P Z G α (op1 f x ρ)) : ∃ a d, deref ρ x = some a ∧ f a = some d ∧ P d ρ G α := by
  unfold op1 at h
  cases e1 : deref ρ x with
  | none => rw [e1] at h; exact h.elim
  | some a =>
    rw [e1] at h
    dsimp only at h
    cases e3 : f a with
    | none => rw [e3] at h; exact h.elim
    | some d => rw [e3] at h; exact ⟨a, d, rfl, e3, h⟩
section
variable {X : Cx} {F : Frm} {Wx : WX} {e a b c : Expr} {es : List Expr} {pos : Pos} {ma mb mc : M D}
structure OpF (X : Cx) (F : Frm) (r : R2) (f : D → D → Option D) : Prop where
  run : ∀ (ρ : E) (G : Hp) (α : Al) (σ : L2.St) (H : Hp) (v u : V) (Q : VK) (a b d : D), W (kw X) F ρ G α σ H → RepB (kw X) H G α a v → RepB (kw X) H G α b u → f a b = some d → PV X F σ Q d ρ G α → r v u H Q
theorem OpF.all {r : R2} {f : D → D → Option D} (h : OpF X F r f) {x y : D} {ρ : E} {G : Hp} {α : Al} {σ : L2.St} {H : Hp} {v u : V} {Q : VK} (w : W (kw X) F ρ G α σ H) (rx : TRep (kw X) σ G α x v) (ry : TRep (kw X) σ G α y u)
    (q : okR (PV X F σ Q) (PZ X F Wx σ) G α (op2 f x y ρ)) : r v u H Q := by
  obtain ⟨a, b, d, e1, e2, e3, q⟩ := op2_ok q
  exact h.run ρ G α σ H v u Q a b d w (w.look rx e1) (w.look ry e2) e3 q
theorem pd_bin {op : Operator} {r : R2} {f : D → D → Option D} (ho : OpR X (binaryOp op) r) (hf : OpF X F r f) (ha : PD X F Wx a ma) (hb : PD X F Wx b mb) : PD X F Wx (.BinOp a op b pos) (do let x ← ma; let y ← mb; op2 f x y) :=
  PE.imp' (pe_op ho ha hb) fun σ H Q ⟨ρ, G, α, w, h⟩ => stepE PV.anti w h fun x ρ1 v H1 G1 α1 w1 x1 r1 h1 => stepE PV.anti w1 h1 fun y ρ2 u H2 G2 α2 w2 x2 r2 h2 =>
    hf.all w2 (TRep.ext x2 r1) r2 h2
theorem pd_cmp {op : CmpOp} {r : R2} {f : D → D → Option D} (ho : OpR X (compareOp op) r) (hf : OpF X F r f) (ha : PD X F Wx a ma) (hb : PD X F Wx b mb) (hm : behindInMarks op b = false) : PD X F Wx (.Compare a [op] [b] pos) (do let x ← ma; let y ← mb; op2 f x y) :=
  PE.imp' (pe_cmpR ho ha hb hm) fun σ H Q ⟨ρ, G, α, w, h⟩ => stepE PV.anti w h fun x ρ1 v H1 G1 α1 w1 x1 r1 h1 => stepE PV.anti w1 h1 fun y ρ2 u H2 G2 α2 w2 x2 r2 h2 =>
    hf.all w2 (TRep.ext x2 r1) r2 h2
/-- a bool that is asked -/
def asB (d : D) : M Bool := fun ρ => match d with
  | .bl b => .ok b ρ
  | _ => .no
theorem pt_cmpD {op : CmpOp} {r : R2} {f : D → D → Option D} (ho : OpR X (compareOp op) r) (hf : OpF X F r f) (ha : PD X F Wx a ma) (hb : PD X F Wx b mb) (hm : behindInMarks op b = false) : PDT X F Wx (.Compare a [op] [b] pos) (do let x ← ma; let y ← mb; let z ← op2 f x y; asB z) :=
  PT.imp' (pt_cmpR ho ha hb hm) fun σ H Q ⟨ρ, G, α, w, h⟩ => stepE PB.anti w h fun x ρ1 v H1 G1 α1 w1 x1 r1 h1 => stepE PB.anti w1 h1 fun y ρ2 u H2 G2 α2 w2 x2 r2 h2 =>
    hf.all (Wx := Wx) w2 (TRep.ext x2 r1) r2 (h2.bind.imp fun d ρ3 q v' H' G' α' w' x' r' => by
      cases d with
      | bl k =>
        have r' : Rep (kw X) G' α' (.bl k) v' := r'
        unfold Rep at r'
        subst r'
        exact ⟨k, rfl, (q.ext PB.anti PZ.anti x' : PB X F σ Q k ρ3 G' α') H' G' α' w' Ext.refl⟩
      | _ => exact q.elim)

/-! ### what stands for a scalar -/
variable {G H : Hp} {α : Al} {v : V} {K : Kw}
theorem repB_int {i : Int} (h : RepB K H G α (.int i) v) : v = .int i := by unfold RepB Rep at h; exact h
theorem repB_bl {i : Bool} (h : RepB K H G α (.bl i) v) : v = .bl i := by unfold RepB Rep at h; exact h
theorem repB_str {i : Str} (h : RepB K H G α (.str i) v) : v = .str i := by unfold RepB Rep at h; exact h
theorem repB_tup {l : List D} (h : RepB K H G α (.tup l) v) : ∃ a xs, v = .ref a ∧ SqT K.K G a xs ∧ RepL K G α l xs := by unfold RepB Rep at h; exact h
theorem repB_non (h : RepB K H G α .non v) : v = .non := by unfold RepB Rep at h; exact h
theorem PV.int {σ : L2.St} {Q : VK} {ρ : E} {i : Int} (h : PV X F σ Q (.int i) ρ G α) (w : W (kw X) F ρ G α σ H) : Q (.int i) H := h _ H G α w Ext.refl (by show Rep _ _ _ _ _; unfold Rep; rfl)
theorem PV.bl {σ : L2.St} {Q : VK} {ρ : E} {i : Bool} (h : PV X F σ Q (.bl i) ρ G α) (w : W (kw X) F ρ G α σ H) : Q (.bl i) H := h _ H G α w Ext.refl (by show Rep _ _ _ _ _; unfold Rep; rfl)
theorem PV.str {σ : L2.St} {Q : VK} {ρ : E} {i : Str} (h : PV X F σ Q (.str i) ρ G α) (w : W (kw X) F ρ G α σ H) : Q (.str i) H := h _ H G α w Ext.refl (by show Rep _ _ _ _ _; unfold Rep; rfl)
theorem PV.non {σ : L2.St} {Q : VK} {ρ : E} (h : PV X F σ Q .non ρ G α) (w : W (kw X) F ρ G α σ H) : Q .non H := h _ H G α w Ext.refl (by show Rep _ _ _ _ _; unfold Rep; rfl)
theorem PV.newL {σ : L2.St} {Q : VK} {ρ : E} {l : List D} {xs : List V} (h : PV X F σ Q (.lst l) ρ G α) (w : W (kw X) F ρ G α σ H) (r : RepL (kw X) G α l xs) : ∀ p, H p = none → Q (.ref p) (upd H p (.lst xs)) := fun p np => by
  obtain ⟨G', w1, x1, r1⟩ := alloc_lst w r np
  exact h _ _ _ _ w1 x1 (TRep.of r1)
theorem PV.newT {σ : L2.St} {Q : VK} {ρ : E} {l : List D} {xs : List V} (h : PV X F σ Q (.tup l) ρ G α) (w : W (kw X) F ρ G α σ H) (r : RepL (kw X) G α l xs) : ∀ p, H p = none → Q (.ref p) (upd H p (.tup xs)) := fun p np => by
  obtain ⟨G', w1, x1, r1⟩ := alloc_tup w r np
  exact h _ _ _ _ w1 x1 (TRep.of r1)

/-! ### + -/
def addD : D → D → Option D
  | .int i, .int j => some (.int (i + j))
  | .int i, .bl k => some (.int (i + b2i k))
  | .str x, .str y => if x.length + y.length ≤ 16777216 then some (.str (x ++ y)) else none
  | .lst x, .lst y => if x.length + y.length ≤ 16777216 then some (.lst (x ++ y)) else none
  | .tup x, .tup y => if x.length + y.length ≤ 16777216 then some (.tup (x ++ y)) else none
  | _, _ => none
theorem add_or : OpR X (binaryOp .Add) (fun x y H Q => (rI0 fun i j => .int (i + j)) x y H Q ∨ (fun x y H Q => (∃ i k, x = .int i ∧ y = .bl k ∧ Q (.int (i + b2i k)) H) ∨ (fun x y H Q => (∃ i j, x = .str i ∧ y = .str j ∧ i.length + j.length ≤ sizeLine ∧ Q (.str (i ++ j)) H) ∨ (fun x y H Q => rCat x y H Q ∨ rCatA X.K x y H Q) x y H Q) x y H Q) x y H Q) :=
  OpR.or op_add (OpR.or op_add_ib (OpR.or op_add_str (OpR.or op_cat op_catA)))
/-- a tuple that is empty stands for another empty one -/
theorem add_f : OpF X F (fun x y H Q => (rI0 fun i j => .int (i + j)) x y H Q ∨ (fun x y H Q => (∃ i k, x = .int i ∧ y = .bl k ∧ Q (.int (i + b2i k)) H) ∨ (fun x y H Q => (∃ i j, x = .str i ∧ y = .str j ∧ i.length + j.length ≤ sizeLine ∧ Q (.str (i ++ j)) H) ∨ (fun x y H Q => rCat x y H Q ∨ rCatA X.K x y H Q) x y H Q) x y H Q) x y H Q) addD := by
  refine ⟨fun ρ G α σ H v u Q a b d w ra rb e q => ?_⟩
  unfold addD at e
  split at e
  · cases e
    exact .inl ⟨_, _, repB_int ra, repB_int rb, q.int w⟩
  · cases e
    exact .inr (.inl ⟨_, _, repB_int ra, repB_bl rb, q.int w⟩)
  · split at e
    · rename_i hl
      cases e
      exact .inr (.inr (.inl ⟨_, _, repB_str ra, repB_str rb, hl, q.str w⟩))
    · cases e
  · split at e
    · rename_i hl
      cases e
      obtain ⟨a1, xs, rfl, h1, r1⟩ := ra
      obtain ⟨b1, ys, rfl, h2, r2⟩ := rb
      exact .inr (.inr (.inr (.inl ⟨a1, b1, xs, ys, rfl, rfl, h1, h2, by rw [r1.length, r2.length]; exact hl, q.newL w (r1.append r2)⟩)))
    · cases e
  · split at e
    · rename_i x y hl
      cases e
      obtain ⟨a1, xs, rfl, h1, r1⟩ := repB_tup ra
      obtain ⟨b1, ys, rfl, h2, r2⟩ := repB_tup rb
      refine .inr (.inr (.inr (.inr ⟨a1, b1, xs, ys, rfl, rfl, SqT.sub h1 w.sub, SqT.sub h2 w.sub, by rw [r1.length, r2.length]; exact hl, fun z => ?_, fun _ z => ?_, fun _ _ => q.newT w (r1.append r2)⟩)))
      · have : x = [] := by
          have := r1.length
          rw [z] at this
          exact List.eq_nil_of_length_eq_zero this.symm
        subst this
        exact q _ _ _ _ w Ext.refl (by show Rep _ _ _ _ _; unfold Rep; exact ⟨b1, ys, rfl, h2, r2⟩)
      · have : y = [] := by
          have := r2.length
          rw [z] at this
          exact List.eq_nil_of_length_eq_zero this.symm
        subst this
        rw [List.append_nil] at q
        exact q _ _ _ _ w Ext.refl (by show Rep _ _ _ _ _; unfold Rep; exact ⟨a1, xs, rfl, h1, r1⟩)
    · cases e
  · cases e
end
end BZ
end
section
set_option Elab.async false
set_option linter.all false
set_option maxRecDepth 100000
set_option maxHeartbeats 1000000
namespace BZ
open PySem PySem.Spec PyProof.Rows L2
section
variable {X : Cx} {F : Frm} {Wx : WX} {e a b c : Expr} {es : List Expr} {pos : Pos} {ma mb mc : M D}
/-! ### the other operators -/
def subD : D → D → Option D
  | .int i, .int j => some (.int (i - j))
  | _, _ => none
theorem sub_f : OpF X F (rI0 fun i j => .int (i - j)) subD := by
  refine ⟨fun ρ G α σ H v u Q a b d w ra rb e q => ?_⟩
  unfold subD at e
  split at e
  · cases e; exact ⟨_, _, repB_int ra, repB_int rb, q.int w⟩
  · cases e
def big64 : Int := 18446744073709551616
def mulD : D → D → Option D
  | .int i, .int j => if (-big64 < i ∧ i < big64) ∨ (-big64 < j ∧ j < big64) then some (.int (i * j)) else none
  | .lst l, .int k => if -9223372036854775808 ≤ k ∧ k < 9223372036854775808 ∧ l.length * k.toNat ≤ 16777216 then some (.lst (List.replicate k.toNat l).flatten) else none
  | .lst l, .bl k => some (.lst (if k = true then l else []))
  | .tup l, .int k => if l ≠ [] ∧ 2 ≤ k ∧ k ≤ 1000 ∧ l.length ≤ 1000 then some (.tup (List.replicate k.toNat l).flatten) else none
  | _, _ => none
theorem RepL.rep {K : Kw} {G : Hp} {α : Al} {l : List D} {xs : List V} (h : RepL K G α l xs) : ∀ k : Nat, RepL K G α (List.replicate k l).flatten (List.replicate k xs).flatten
  | 0 => RepL.nil
  | k + 1 => by
    rw [List.replicate_succ, List.replicate_succ, List.flatten_cons, List.flatten_cons]
    exact h.append (RepL.rep h k)
def rMulA (X : Cx) : R2 := fun x y H Q => (rI CMul fun i j => .int (i * j)) x y H Q ∨ (fun x y H Q => rRep x y H Q ∨ (fun x y H Q => (∃ a xs k, x = V.ref a ∧ y = V.bl k ∧ SqL X.K H a xs ∧ ∀ p, H p = none → Q (.ref p) (upd H p (.lst (if k = true then xs else [])))) ∨ rRepT X.K x y H Q) x y H Q) x y H Q
theorem mul_or : OpR X (binaryOp .Mult) (rMulA X) := OpR.or op_mul (OpR.or op_rep (OpR.or op_mul_lb op_repT))
theorem RepL.ne {K : Kw} {G : Hp} {α : Al} {l : List D} {xs : List V} (h : RepL K G α l xs) (n : l ≠ []) : xs ≠ [] := fun z => by
  have := h.length
  rw [z] at this
  exact n (List.eq_nil_of_length_eq_zero this.symm)
theorem mul_f : OpF X F (rMulA X) mulD := by
  refine ⟨fun ρ G α σ H v u Q a b d w ra rb e q => ?_⟩
  unfold mulD at e
  split at e
  · split at e
    · rename_i h
      cases e
      refine .inl ⟨_, _, repB_int ra, repB_int rb, ?_, q.int w⟩
      unfold CMul
      unfold big64 at h
      omega
    · cases e
  · split at e
    · rename_i h
      cases e
      obtain ⟨h1, h2, h3⟩ := h
      obtain ⟨a1, xs, rfl, e1, r1⟩ := ra
      refine .inr (.inl ⟨a1, _, xs, rfl, repB_int rb, e1, by omega, by omega, by rw [r1.length]; exact h3, q.newL w (r1.rep _)⟩)
    · cases e
  · cases e
    obtain ⟨a1, xs, rfl, e1, r1⟩ := ra
    rename_i k
    refine .inr (.inr (.inl ⟨a1, xs, _, rfl, repB_bl rb, SqL.of e1, q.newL w ?_⟩))
    cases k with
    | true => exact r1
    | false => exact RepL.nil
  · split at e
    · rename_i h
      cases e
      obtain ⟨h0, h1, h2, h3⟩ := h
      obtain ⟨a1, xs, rfl, e1, r1⟩ := repB_tup ra
      exact .inr (.inr (.inr ⟨a1, _, xs, rfl, repB_int rb, SqT.sub e1 w.sub, r1.ne h0, h1, h2, by rw [r1.length]; exact h3, q.newT w (r1.rep _)⟩))
    · cases e
  · cases e
def fdivD : D → D → Option D
  | .int i, .int j => if 0 < j ∧ j < 1073741824 then some (.int (i / j)) else none
  | _, _ => none
theorem fdiv_f : OpF X F (rI CDiv fun i j => .int (i / j)) fdivD := by
  refine ⟨fun ρ G α σ H v u Q a b d w ra rb e q => ?_⟩
  unfold fdivD at e
  split at e
  · split at e
    · rename_i h
      cases e; exact ⟨_, _, repB_int ra, repB_int rb, h, q.int w⟩
    · cases e
  · cases e
def modD : D → D → Option D
  | .int i, .int j => if 0 < j then some (.int (i % j)) else none
  | _, _ => none
theorem mod_f : OpF X F (rI (fun _ j => 0 < j) fun i j => .int (i % j)) modD := by
  refine ⟨fun ρ G α σ H v u Q a b d w ra rb e q => ?_⟩
  unfold modD at e
  split at e
  · split at e
    · rename_i h
      cases e; exact ⟨_, _, repB_int ra, repB_int rb, h, q.int w⟩
    · cases e
  · cases e
def powD : D → D → Option D
  | .int i, .int j => if 0 ≤ j ∧ j ≤ 1000 ∧ i.natAbs < 1000000 then some (.int (i ^ j.toNat)) else none
  | _, _ => none
theorem pow_f : OpF X F (rI CPow fun i j => .int (i ^ j.toNat)) powD := by
  refine ⟨fun ρ G α σ H v u Q a b d w ra rb e q => ?_⟩
  unfold powD at e
  split at e
  · split at e
    · rename_i h
      cases e; refine ⟨_, _, repB_int ra, repB_int rb, ?_, q.int w⟩
      unfold CPow; omega
    · cases e
  · cases e
theorem pd_add (ha : PD X F Wx a ma) (hb : PD X F Wx b mb) : PD X F Wx (.BinOp a .Add b pos) (do let x ← ma; let y ← mb; op2 addD x y) := pd_bin add_or add_f ha hb
theorem pd_sub (ha : PD X F Wx a ma) (hb : PD X F Wx b mb) : PD X F Wx (.BinOp a .Sub b pos) (do let x ← ma; let y ← mb; op2 subD x y) := pd_bin op_sub sub_f ha hb
theorem pd_mul (ha : PD X F Wx a ma) (hb : PD X F Wx b mb) : PD X F Wx (.BinOp a .Mult b pos) (do let x ← ma; let y ← mb; op2 mulD x y) := pd_bin mul_or mul_f ha hb
theorem pd_fdiv (ha : PD X F Wx a ma) (hb : PD X F Wx b mb) : PD X F Wx (.BinOp a .FloorDiv b pos) (do let x ← ma; let y ← mb; op2 fdivD x y) := pd_bin op_fdiv fdiv_f ha hb
theorem pd_mod (ha : PD X F Wx a ma) (hb : PD X F Wx b mb) : PD X F Wx (.BinOp a .Mod b pos) (do let x ← ma; let y ← mb; op2 modD x y) := pd_bin op_mod mod_f ha hb
theorem pd_pow (ha : PD X F Wx a ma) (hb : PD X F Wx b mb) : PD X F Wx (.BinOp a .Pow b pos) (do let x ← ma; let y ← mb; op2 powD x y) := pd_bin op_pow pow_f ha hb
def negD : D → Option D
  | .int i => some (.int (-i))
  | _ => none
theorem pd_neg (ha : PD X F Wx a ma) : PD X F Wx (.UnaryOp .USub a pos) (do let x ← ma; op1 negD x) :=
  PE.imp' (pe_un un_neg ha) fun σ H Q ⟨ρ, G, α, w, h⟩ => stepE PV.anti w h fun x ρ1 v H1 G1 α1 w1 x1 r1 h1 => by
    obtain ⟨a, d, e1, e2, q⟩ := op1_ok h1
    have r := w1.look r1 e1
    unfold negD at e2
    split at e2
    · cases e2; exact ⟨_, repB_int r, q.int w1⟩
    · cases e2

/-! ### comparisons -/
def eqF (a b : D) : Option D := if depOk 60 a && depOk 60 b then some (.bl (eqD a b)) else none
def neF (a b : D) : Option D := if depOk 60 a && depOk 60 b then some (.bl (!eqD a b)) else none
theorem eq_f : OpF X F (rEqX X) eqF := by
  refine ⟨fun ρ G α σ H v u Q a b d w ra rb e q => ?_⟩
  unfold eqF at e
  split at e
  · rename_i h
    have h' : depOk 60 a = true ∧ depOk 60 b = true := by simpa using h
    cases e
    exact ⟨a, b, repB_in w.sub 60 a v h'.1 ra, repB_in w.sub 60 b u h'.2 rb, h'.1, h'.2, q.bl w⟩
  · cases e
theorem ne_f : OpF X F (rNeX X) neF := by
  refine ⟨fun ρ G α σ H v u Q a b d w ra rb e q => ?_⟩
  unfold neF at e
  split at e
  · rename_i h
    have h' : depOk 60 a = true ∧ depOk 60 b = true := by simpa using h
    cases e
    exact ⟨a, b, repB_in w.sub 60 a v h'.1 ra, repB_in w.sub 60 b u h'.2 rb, h'.1, h'.2, q.bl w⟩
  · cases e
def ltStr (x y : Str) : Bool := decide (x.cps.toList < y.cps.toList)
def ltD : D → D → Option D
  | .int i, .int j => some (.bl (decide (i < j)))
  | .str x, .str y => some (.bl (ltStr x y))
  | _, _ => none
theorem lt_or : OpR X (compareOp .Lt) (fun x y H Q => (rI0 fun i j => .bl (decide (i < j))) x y H Q ∨ (∃ i j, x = .str i ∧ y = .str j ∧ Q (.bl (decide (i.cps.toList < j.cps.toList))) H)) := OpR.or op_lt op_lt_str
theorem lt_f : OpF X F (fun x y H Q => (rI0 fun i j => .bl (decide (i < j))) x y H Q ∨ (∃ i j, x = .str i ∧ y = .str j ∧ Q (.bl (decide (i.cps.toList < j.cps.toList))) H)) ltD := by
  refine ⟨fun ρ G α σ H v u Q a b d w ra rb e q => ?_⟩
  unfold ltD at e
  split at e
  · cases e; exact .inl ⟨_, _, repB_int ra, repB_int rb, q.bl w⟩
  · cases e; exact .inr ⟨_, _, repB_str ra, repB_str rb, q.bl w⟩
  · cases e
def leD : D → D → Option D
  | .int i, .int j => some (.bl (decide (i ≤ j)))
  | _, _ => none
theorem le_f : OpF X F (rI0 fun i j => .bl (decide (i ≤ j))) leD := by
  refine ⟨fun ρ G α σ H v u Q a b d w ra rb e q => ?_⟩
  unfold leD at e
  split at e
  · cases e; exact ⟨_, _, repB_int ra, repB_int rb, q.bl w⟩
  · cases e
def gtD : D → D → Option D
  | .int i, .int j => some (.bl (decide (j < i)))
  | _, _ => none
theorem gt_f : OpF X F (rI0 fun i j => .bl (decide (j < i))) gtD := by
  refine ⟨fun ρ G α σ H v u Q a b d w ra rb e q => ?_⟩
  unfold gtD at e
  split at e
  · cases e; exact ⟨_, _, repB_int ra, repB_int rb, q.bl w⟩
  · cases e
def geD : D → D → Option D
  | .int i, .int j => some (.bl (decide (j ≤ i)))
  | _, _ => none
theorem ge_f : OpF X F (rI0 fun i j => .bl (decide (j ≤ i))) geD := by
  refine ⟨fun ρ G α σ H v u Q a b d w ra rb e q => ?_⟩
  unfold geD at e
  split at e
  · cases e; exact ⟨_, _, repB_int ra, repB_int rb, q.bl w⟩
  · cases e
/-- is: the right side None or a bool -/
def isD : D → D → Option D
  | .non, .non => some (.bl true)
  | .bl _, .non => some (.bl false)
  | .int _, .non => some (.bl false)
  | .str _, .non => some (.bl false)
  | .tup _, .non => some (.bl false)
  | .lst _, .non => some (.bl false)
  | .dct _ _, .non => some (.bl false)
  | .bl a, .bl b => some (.bl (decide (a = b)))
  | _, _ => none
def isNotD : D → D → Option D
  | .non, .non => some (.bl false)
  | .bl _, .non => some (.bl true)
  | .int _, .non => some (.bl true)
  | .str _, .non => some (.bl true)
  | .tup _, .non => some (.bl true)
  | .lst _, .non => some (.bl true)
  | .dct _ _, .non => some (.bl true)
  | .bl a, .bl b => some (.bl (!decide (a = b)))
  | _, _ => none
theorem is_or : OpR X (compareOp .Is) (fun x y H Q => (y = .non ∧ Q (.bl (decide (x = .non))) H) ∨ rIsB x y H Q) := OpR.or op_isN op_isBl
theorem isNot_or : OpR X (compareOp .IsNot) (fun x y H Q => (y = .non ∧ Q (.bl (!decide (x = .non))) H) ∨ rNotB x y H Q) := OpR.or op_notN op_notBl
theorem is_f : OpF X F (fun x y H Q => (y = .non ∧ Q (.bl (decide (x = .non))) H) ∨ rIsB x y H Q) isD := by
  refine ⟨fun ρ G α σ H v u Q a b d w ra rb e q => ?_⟩
  unfold isD at e
  split at e
  · cases e; refine .inl ⟨repB_non rb, ?_⟩; rw [repB_non ra]; exact q.bl w
  · cases e; refine .inl ⟨repB_non rb, ?_⟩; rw [repB_bl ra]; exact q.bl w
  · cases e; refine .inl ⟨repB_non rb, ?_⟩; rw [repB_int ra]; exact q.bl w
  · cases e; refine .inl ⟨repB_non rb, ?_⟩; rw [repB_str ra]; exact q.bl w
  · cases e; refine .inl ⟨repB_non rb, ?_⟩; obtain ⟨a1, xs, rfl, _⟩ := repB_tup ra; exact q.bl w
  · cases e; refine .inl ⟨repB_non rb, ?_⟩; obtain ⟨a1, xs, rfl, _⟩ := ra; exact q.bl w
  · cases e; refine .inl ⟨repB_non rb, ?_⟩; obtain ⟨a1, xs, rfl, _⟩ := ra; exact q.bl w
  · cases e; exact .inr ⟨_, _, repB_bl ra, repB_bl rb, q.bl w⟩
  · cases e
theorem isNot_f : OpF X F (fun x y H Q => (y = .non ∧ Q (.bl (!decide (x = .non))) H) ∨ rNotB x y H Q) isNotD := by
  refine ⟨fun ρ G α σ H v u Q a b d w ra rb e q => ?_⟩
  unfold isNotD at e
  split at e
  · cases e; refine .inl ⟨repB_non rb, ?_⟩; rw [repB_non ra]; exact q.bl w
  · cases e; refine .inl ⟨repB_non rb, ?_⟩; rw [repB_bl ra]; exact q.bl w
  · cases e; refine .inl ⟨repB_non rb, ?_⟩; rw [repB_int ra]; exact q.bl w
  · cases e; refine .inl ⟨repB_non rb, ?_⟩; rw [repB_str ra]; exact q.bl w
  · cases e; refine .inl ⟨repB_non rb, ?_⟩; obtain ⟨a1, xs, rfl, _⟩ := repB_tup ra; exact q.bl w
  · cases e; refine .inl ⟨repB_non rb, ?_⟩; obtain ⟨a1, xs, rfl, _⟩ := ra; exact q.bl w
  · cases e; refine .inl ⟨repB_non rb, ?_⟩; obtain ⟨a1, xs, rfl, _⟩ := ra; exact q.bl w
  · cases e; exact .inr ⟨_, _, repB_bl ra, repB_bl rb, q.bl w⟩
  · cases e

/-! ### truth -/
def truthD : D → Option Bool
  | .non => some false
  | .bl b => some b
  | .int i => some (i != 0)
  | .str x => if x.length ≤ 16777216 then some ((x.length : Int) != 0) else none
  | .tup l => some (!l.isEmpty)
  | .lst l => some (!l.isEmpty)
  | _ => none
def truth (x : D) : M Bool := fun ρ => match deref ρ x with
  | some d => (match truthD d with
    | some b => .ok b ρ
    | none => .no)
  | none => .no
theorem truth_ok {x : D} {ρ : E} {P : PP Bool} {Z : PP Exn} {G : Hp} {α : Al} (h : okR P Z G α (truth x ρ)) : ∃ a b, deref ρ x = some a ∧ truthD a = some b ∧ P b ρ G α := by
  unfold truth at h
  cases e1 : deref ρ x with
  | none => rw [e1] at h; exact h.elim
  | some a =>
    rw [e1] at h
    dsimp only at h
    cases e3 : truthD a with
    | none => rw [e3] at h; exact h.elim
    | some d => rw [e3] at h; exact ⟨a, d, rfl, e3, h⟩
theorem empty_len {α β : Type} {l : List α} {m : List β} (h : l.length = m.length) : (!l.isEmpty) = !m.isEmpty := by
  cases l <;> cases m <;> simp_all
theorem truV_of {H G : Hp} {α : Al} {a : D} {v : V} {k : Bool} (r : RepB (kw X) H G α a v) (s : ∀ a o, G a = some o → H a = some o) (e : truthD a = some k) : TruV X.K v H k := by
  unfold truthD at e
  split at e
  · cases e; rw [repB_non r]; rfl
  · cases e; rw [repB_bl r]; rfl
  · cases e; rw [repB_int r]; rfl
  · split at e
    · rename_i h
      cases e; rw [repB_str r]; exact ⟨h, rfl⟩
    · cases e
  · cases e
    obtain ⟨a1, xs, rfl, h1, r1⟩ := repB_tup r
    exact .inr (.inl ⟨xs, SqT.sub h1 s, (empty_len r1.length).symm⟩)
  · cases e
    obtain ⟨a1, xs, rfl, h1, r1⟩ := r
    exact .inl ⟨xs, SqL.of h1, (empty_len r1.length).symm⟩
  · cases e
/-- a value as a test -/
theorem pt_truthD (ha : PD X F Wx a ma) (he : ∀ whole, isTrue a X.env whole = (do let v ← whole; standAt a.pos; holding [v] (truthy v)) := by intro _; rfl) : PDT X F Wx a (do let x ← ma; truth x) :=
  PT.imp' (pt_truth ha he) fun σ H Q ⟨ρ, G, α, w, h⟩ => stepE PB.anti w h fun x ρ1 v H1 G1 α1 w1 x1 r1 h1 => by
    obtain ⟨d, k, e1, e2, q⟩ := truth_ok h1
    exact ⟨k, truV_of (w1.look r1 e1) w1.sub e2, q H1 G1 α1 w1 Ext.refl⟩
/-! ### and, or, not, if -/
variable {ta tb : M Bool}
theorem pt_notD (ha : PDT X F Wx a ta) : PDT X F Wx (.UnaryOp .Not a pos) (do let k ← ta; ret (!k)) :=
  PT.imp' (pt_not ha) fun σ H Q ⟨ρ, G, α, w, h⟩ => stepT PB.anti w h fun k ρ1 H1 G1 α1 w1 x1 h1 => h1 H1 G1 α1 w1 Ext.refl
theorem pw_and1D (ha : PDT X F Wx a ta) : PDW X F Wx (.BoolOp .And [a] pos) ta := pw_and1 ha
theorem pw_or1D (ha : PDT X F Wx a ta) : PDW X F Wx (.BoolOp .Or [a] pos) ta := pw_or1 ha
theorem pw_andD (ha : PDT X F Wx a ta) (hb : PDW X F Wx (.BoolOp .And (b :: es) pos) tb) : PDW X F Wx (.BoolOp .And (a :: b :: es) pos) (do let k ← ta; if k = true then tb else ret false) :=
  PW.imp' (pw_and ha hb) fun σ H Q ⟨ρ, G, α, w, h⟩ => stepT PB.anti w h fun k ρ1 H1 G1 α1 w1 x1 h1 => by
    cases k with
    | true => rw [if_pos rfl] at h1 ⊢; exact ⟨ρ1, G1, α1, w1, h1⟩
    | false => rw [if_neg (by decide)] at h1 ⊢; exact h1 H1 G1 α1 w1 Ext.refl
theorem pw_orD (ha : PDT X F Wx a ta) (hb : PDW X F Wx (.BoolOp .Or (b :: es) pos) tb) : PDW X F Wx (.BoolOp .Or (a :: b :: es) pos) (do let k ← ta; if k = true then ret true else tb) :=
  PW.imp' (pw_or ha hb) fun σ H Q ⟨ρ, G, α, w, h⟩ => stepT PB.anti w h fun k ρ1 H1 G1 α1 w1 x1 h1 => by
    cases k with
    | true => rw [if_pos rfl] at h1 ⊢; exact h1 H1 G1 α1 w1 Ext.refl
    | false => rw [if_neg (by decide)] at h1 ⊢; exact ⟨ρ1, G1, α1, w1, h1⟩
theorem pt_w (h : PDW X F Wx a ta) : PDT X F Wx a ta := h.pt
/-- x and y, x or y, not x: values -/
theorem pd_and1 {op} (ha : PD X F Wx a ma) : PD X F Wx (.BoolOp op [a] pos) ma := pe_one ha
theorem pd_and (ha : PD X F Wx a ma) (hb : PD X F Wx (.BoolOp .And (b :: es) pos) mb) : PD X F Wx (.BoolOp .And (a :: b :: es) pos) (do let x ← ma; let k ← truth x; if k = true then mb else ret x) :=
  PE.imp' (pe_andT ha hb) fun σ H Q ⟨ρ, G, α, w, h⟩ => stepE PV.anti w h fun x ρ1 v H1 G1 α1 w1 x1 r1 h1 => by
    obtain ⟨d, k, e1, e2, q⟩ := truth_ok h1.bind
    refine ⟨k, truV_of (w1.look r1 e1) w1.sub e2, ?_⟩
    cases k with
    | true => exact ⟨ρ1, G1, α1, w1, q⟩
    | false => exact (q : PV X F σ Q x ρ1 G1 α1) v H1 G1 α1 w1 Ext.refl r1
theorem pd_or (ha : PD X F Wx a ma) (hb : PD X F Wx (.BoolOp .Or (b :: es) pos) mb) : PD X F Wx (.BoolOp .Or (a :: b :: es) pos) (do let x ← ma; let k ← truth x; if k = true then ret x else mb) :=
  PE.imp' (pe_orT ha hb) fun σ H Q ⟨ρ, G, α, w, h⟩ => stepE PV.anti w h fun x ρ1 v H1 G1 α1 w1 x1 r1 h1 => by
    obtain ⟨d, k, e1, e2, q⟩ := truth_ok h1.bind
    refine ⟨k, truV_of (w1.look r1 e1) w1.sub e2, ?_⟩
    cases k with
    | true => exact (q : PV X F σ Q x ρ1 G1 α1) v H1 G1 α1 w1 Ext.refl r1
    | false => exact ⟨ρ1, G1, α1, w1, q⟩
theorem pd_not (ha : PD X F Wx a ma) : PD X F Wx (.UnaryOp .Not a pos) (do let x ← ma; let k ← truth x; ret (.bl (!k))) :=
  PE.imp' (pe_notT ha) fun σ H Q ⟨ρ, G, α, w, h⟩ => stepE PV.anti w h fun x ρ1 v H1 G1 α1 w1 x1 r1 h1 => by
    obtain ⟨d, k, e1, e2, q⟩ := truth_ok h1.bind
    exact ⟨k, truV_of (w1.look r1 e1) w1.sub e2, (q : PV X F σ Q (.bl (!k)) ρ1 G1 α1).bl w1⟩
theorem pd_if (hc : PDT X F Wx c ta) (ha : PD X F Wx a ma) (hb : PD X F Wx b mb) : PD X F Wx (.IfExp c a b pos) (do let k ← ta; if k = true then ma else mb) :=
  PE.imp' (pe_ifExp hc ha hb) fun σ H Q ⟨ρ, G, α, w, h⟩ => stepT PV.anti w h fun k ρ1 H1 G1 α1 w1 x1 h1 => by
    cases k with
    | true => exact ⟨ρ1, G1, α1, w1, h1⟩
    | false => exact ⟨ρ1, G1, α1, w1, h1⟩
/-- a < b < c -/
theorem pd_chain {op op' : CmpOp} {r r' : R2} {f f' : D → D → Option D} (ho : OpR X (compareOp op) r) (hf : OpF X F r f) (ho' : OpR X (compareOp op') r') (hf' : OpF X F r' f') (ha : PD X F Wx a ma) (hb : PD X F Wx b mb) (hc : PD X F Wx c mc)
    (hm : lastMarks [op, op'] [b, c] = false := by with_unfolding_all rfl) : PD X F Wx (.Compare a [op, op'] [b, c] pos) (do let x ← ma; let y ← mb; let z ← op2 f x y; let k ← asB z; if k = true then (do let t ← mc; op2 f' y t) else ret (.bl false)) :=
  PE.imp' (pe_chain ho ho' ha hb hc hm) fun σ H Q ⟨ρ, G, α, w, h⟩ => stepE PV.anti w h fun x ρ1 v H1 G1 α1 w1 x1 r1 h1 => stepE PV.anti w1 h1 fun y ρ2 u H2 G2 α2 w2 x2 r2 h2 =>
    hf.all (Wx := Wx) w2 (TRep.ext x2 r1) r2 (h2.bind.imp fun d ρ3 q v' H' G' α' w' x' r' => by
      have hq := okR.ext PV.anti PZ.anti x' q
      cases d with
      | bl k =>
        have r' : Rep (kw X) G' α' (.bl k) v' := r'
        unfold Rep at r'
        subst r'
        refine ⟨k, rfl, ?_⟩
        cases k with
        | true => exact stepE PV.anti w' hq fun t ρ4 z H4 G4 α4 w4 x4 r4 h4 => hf'.all w4 (TRep.ext (x'.trans x4) r2) r4 h4
        | false => exact (hq : PV X F σ Q (.bl false) ρ3 G' α').bl w'
      | _ => exact hq.elim)
end
end BZ
end
section
set_option Elab.async false
set_option linter.all false
set_option maxRecDepth 100000
set_option maxHeartbeats 1000000
namespace BZ
open PySem PySem.Spec PyProof.Rows L2
mutual
theorem rawD_inj {h : Heap} : ∀ (d e : D) (u : Value), RawD h d u → RawD h e u → d = e
  | .non, e, u, p, q => by
    unfold RawD at p; subst p
    cases e with
    | non => rfl
    | bl _ => unfold RawD at q; cases q
    | int _ => unfold RawD at q; obtain ⟨_, q⟩ := q; cases q
    | str _ => unfold RawD at q; obtain ⟨_, q⟩ := q; cases q
    | lst _ => unfold RawD at q; obtain ⟨_, _, q, _⟩ := q; cases q
    | tup _ => unfold RawD at q; obtain ⟨_, _, q, _⟩ := q; cases q
    | _ => unfold RawD at q; exact q.elim
  | .bl b, e, u, p, q => by
    unfold RawD at p; subst p
    cases e with
    | non => unfold RawD at q; cases q
    | bl _ => unfold RawD at q; cases q; rfl
    | int _ => unfold RawD at q; obtain ⟨_, q⟩ := q; cases q
    | str _ => unfold RawD at q; obtain ⟨_, q⟩ := q; cases q
    | lst _ => unfold RawD at q; obtain ⟨_, _, q, _⟩ := q; cases q
    | tup _ => unfold RawD at q; obtain ⟨_, _, q, _⟩ := q; cases q
    | _ => unfold RawD at q; exact q.elim
  | .int i, e, u, p, q => by
    unfold RawD at p; obtain ⟨t, p⟩ := p; subst p
    cases e with
    | non => unfold RawD at q; cases q
    | bl _ => unfold RawD at q; cases q
    | int _ => unfold RawD at q; obtain ⟨_, q⟩ := q; cases q; rfl
    | str _ => unfold RawD at q; obtain ⟨_, q⟩ := q; cases q
    | lst _ => unfold RawD at q; obtain ⟨_, _, q, _⟩ := q; cases q
    | tup _ => unfold RawD at q; obtain ⟨_, _, q, _⟩ := q; cases q
    | _ => unfold RawD at q; exact q.elim
  | .str i, e, u, p, q => by
    unfold RawD at p; obtain ⟨t, p⟩ := p; subst p
    cases e with
    | non => unfold RawD at q; cases q
    | bl _ => unfold RawD at q; cases q
    | int _ => unfold RawD at q; obtain ⟨_, q⟩ := q; cases q
    | str _ => unfold RawD at q; obtain ⟨_, q⟩ := q; cases q; rfl
    | lst _ => unfold RawD at q; obtain ⟨_, _, q, _⟩ := q; cases q
    | tup _ => unfold RawD at q; obtain ⟨_, _, q, _⟩ := q; cases q
    | _ => unfold RawD at q; exact q.elim
  | .lst l, e, u, p, q => by
    unfold RawD at p; obtain ⟨a, its, p, p1, p2⟩ := p; subst p
    cases e with
    | lst m =>
      unfold RawD at q
      obtain ⟨a', its', q, q1, q2⟩ := q
      cases q
      have e : its = its' := by simpa using congrArg Array.toList (islist_inj p1 q1)
      subst e
      rw [rawL_inj l m its p2 q2]
    | tup m =>
      unfold RawD at q
      obtain ⟨a', its', q, q1, q2⟩ := q
      cases q
      exact (list_not_tup p1 q1).elim
    | non => unfold RawD at q; cases q
    | bl _ => unfold RawD at q; cases q
    | int _ => unfold RawD at q; obtain ⟨_, q⟩ := q; cases q
    | str _ => unfold RawD at q; obtain ⟨_, q⟩ := q; cases q
    | _ => unfold RawD at q; exact q.elim
  | .tup l, e, u, p, q => by
    unfold RawD at p; obtain ⟨a, its, p, p1, p2⟩ := p; subst p
    cases e with
    | tup m =>
      unfold RawD at q
      obtain ⟨a', its', q, q1, q2⟩ := q
      cases q
      have e : its = its' := by simpa using congrArg Array.toList (istup_inj p1 q1)
      subst e
      rw [rawL_inj l m its p2 q2]
    | lst m =>
      unfold RawD at q
      obtain ⟨a', its', q, q1, q2⟩ := q
      cases q
      exact (list_not_tup q1 p1).elim
    | non => unfold RawD at q; cases q
    | bl _ => unfold RawD at q; cases q
    | int _ => unfold RawD at q; obtain ⟨_, q⟩ := q; cases q
    | str _ => unfold RawD at q; obtain ⟨_, q⟩ := q; cases q
    | _ => unfold RawD at q; exact q.elim
  | .dct _ _, _, _, p, _ => by unfold RawD at p; exact p.elim
  | .loc _, _, _, p, _ => by unfold RawD at p; exact p.elim
  | .sl _, _, _, p, _ => by unfold RawD at p; exact p.elim
  | .kd _ _, _, _, p, _ => by unfold RawD at p; exact p.elim
  | .scr _, _, _, p, _ => by unfold RawD at p; exact p.elim
theorem rawL_inj {h : Heap} : ∀ (l m : List D) (us : List Value), RawL h l us → RawL h m us → l = m
  | [], m, us, p, q => by
    unfold RawL at p; subst p
    cases m with
    | nil => rfl
    | cons _ _ => unfold RawL at q; obtain ⟨_, _, q, _⟩ := q; cases q
  | d :: l, m, us, p, q => by
    unfold RawL at p
    obtain ⟨u, r, p, p1, p2⟩ := p
    subst p
    cases m with
    | nil => unfold RawL at q; cases q
    | cons e m =>
      unfold RawL at q
      obtain ⟨u', r', q, q1, q2⟩ := q
      cases q
      rw [rawD_inj d e u p1 q1, rawL_inj l m r p2 q2]
end
open Classical in
/-- the test of an item -/
noncomputable def itemE (h : Heap) (x : D) (y : Value) : Bool := if q : ∃ d, RawD h d y then eqD (Classical.choose q) x else false
theorem itemE_eq {h : Heap} {x d : D} {y : Value} (r : RawD h d y) : itemE h x y = eqD d x := by
  unfold itemE
  have q : ∃ d, RawD h d y := ⟨d, r⟩
  rw [dif_pos q, rawD_inj _ _ _ (Classical.choose_spec q) r]
theorem rawL_any {h : Heap} {x : D} : ∀ {l : List D} {us : List Value}, RawL h l us → us.any (itemE h x) = l.any fun d => eqD d x
  | [], us, r => by unfold RawL at r; subst r; rfl
  | d :: l, us, r => by
    unfold RawL at r
    obtain ⟨u, t, e, r1, r2⟩ := r
    subst e
    rw [List.any_cons, List.any_cons, itemE_eq r1, rawL_any r2]
theorem rawL_mem {h : Heap} : ∀ {l : List D} {us : List Value} {n : Nat}, RawL h l us → depOks n l = true → ∀ y ∈ us, ∃ d, RawD h d y ∧ depOk n d = true
  | [], us, _, r, _, y, hy => by unfold RawL at r; subst r; cases hy
  | d :: l, us, n, r, o, y, hy => by
    unfold RawL at r
    obtain ⟨u, t, e, r1, r2⟩ := r
    subst e
    unfold depOks at o
    have o' : depOk n d = true ∧ depOks n l = true := by simpa using o
    rcases List.mem_cons.mp hy with z | z
    · exact ⟨d, z ▸ r1, o'.1⟩
    · exact rawL_mem r2 o'.2 y z
section
variable {X : Cx} {F : Frm} {Wx : WX} {e a b c : Expr} {es : List Expr} {pos : Pos} {ma mb mc : M D}
/-- x in a list, a tuple, a text -/
def rInX (X : Cx) (neg : Bool) : R2 := fun x y H Q => ∃ a l, Rep ⟨X.K, X.w⟩ H noAl a x ∧ depOk 60 a = true ∧ depOks 60 l = true ∧ (Rep ⟨X.K, X.w⟩ H noAl (.lst l) y ∨ Rep ⟨X.K, X.w⟩ H noAl (.tup l) y) ∧ Q (.bl (if neg then !l.any fun d => eqD d a else l.any fun d => eqD d a)) H
theorem op_inX (hu : X.A.units + 65 < cLine) : OpR X (compareOp .In) (rInX X false) := by
  intro pins s σ H x y v u Q I rx ry h
  obtain ⟨a, l, ra, da, dl, rl, q⟩ := h
  have raw := raw_of I 60 a x v da ra rx
  have fin : ∀ its, RawL s.heap l its → EP X pins σ Q (.bool (its.toArray.any (itemE s.heap a))) s := fun its r => ⟨.bl _, H, I, rfl, by
    have : its.toArray.any (itemE s.heap a) = l.any fun d => eqD d a := by rw [← rawL_any r]; simp
    rw [this]; exact q⟩
  have he : ∀ its, RawL s.heap l its → ∀ z, z ∈ its.toArray → SeqAt.EqAt X.A.in1 s z v (itemE s.heap a z) := fun its r z hz => by
    obtain ⟨d, rd, dd⟩ := rawL_mem r dl z (by simpa using hz)
    rw [itemE_eq rd]
    exact eqAtD 60 d a X.A.in1 s z v dd da rd raw (by show X.A.units + 1 + 60 < cLine; omega)
  rcases rl with rl | rl
  · have rw_ := raw_of I 61 (.lst l) y u (by unfold depOk; exact dl) rl ry
    unfold RawD at rw_
    obtain ⟨p, its, rfl, hl, r⟩ := rw_
    exact SeqAt.in_listAt _ hl (he its r) (fin its r)
  · have rw_ := raw_of I 61 (.tup l) y u (by unfold depOk; exact dl) rl ry
    unfold RawD at rw_
    obtain ⟨p, its, rfl, hl, r⟩ := rw_
    exact SeqAt.in_tupleAt _ hl (he its r) (fin its r)
theorem op_notInX (hu : X.A.units + 65 < cLine) : OpR X (compareOp .NotIn) (rInX X true) := by
  intro pins s σ H x y v u Q I rx ry h
  obtain ⟨a, l, ra, da, dl, rl, q⟩ := h
  have raw := raw_of I 60 a x v da ra rx
  have fin : ∀ its, RawL s.heap l its → EP X pins σ Q (.bool (!its.toArray.any (itemE s.heap a))) s := fun its r => ⟨.bl _, H, I, rfl, by
    have : its.toArray.any (itemE s.heap a) = l.any fun d => eqD d a := by rw [← rawL_any r]; simp
    rw [this]; exact q⟩
  have he : ∀ its, RawL s.heap l its → ∀ z, z ∈ its.toArray → SeqAt.EqAt X.A.in1 s z v (itemE s.heap a z) := fun its r z hz => by
    obtain ⟨d, rd, dd⟩ := rawL_mem r dl z (by simpa using hz)
    rw [itemE_eq rd]
    exact eqAtD 60 d a X.A.in1 s z v dd da rd raw (by show X.A.units + 1 + 60 < cLine; omega)
  rcases rl with rl | rl
  · have rw_ := raw_of I 61 (.lst l) y u (by unfold depOk; exact dl) rl ry
    unfold RawD at rw_
    obtain ⟨p, its, rfl, hl, r⟩ := rw_
    exact SeqAt.notIn_listAt _ hl (he its r) (fin its r)
  · have rw_ := raw_of I 61 (.tup l) y u (by unfold depOk; exact dl) rl ry
    unfold RawD at rw_
    obtain ⟨p, its, rfl, hl, r⟩ := rw_
    exact SeqAt.notIn_tupleAt _ hl (he its r) (fin its r)
def anyEq (l : List D) (a : D) : Bool := l.any fun d => eqD d a
def inStr (x y : Str) : Bool := !(Builtin.Str.occurrences y x 0 y.length 1).isEmpty
def inD : D → D → Option D
  | .str x, .str y => some (.bl (inStr x y))
  | a, .lst l => if depOk 60 a && depOks 60 l then some (.bl (anyEq l a)) else none
  | a, .tup l => if depOk 60 a && depOks 60 l then some (.bl (anyEq l a)) else none
  | _, _ => none
def notInD : D → D → Option D
  | .str x, .str y => some (.bl (!inStr x y))
  | a, .lst l => if depOk 60 a && depOks 60 l then some (.bl (!anyEq l a)) else none
  | a, .tup l => if depOk 60 a && depOks 60 l then some (.bl (!anyEq l a)) else none
  | _, _ => none
def rInA (X : Cx) : R2 := fun x y H Q => rInX X false x y H Q ∨ (∃ i j, x = .str i ∧ y = .str j ∧ Q (.bl (!(Builtin.Str.occurrences j i 0 j.length 1).isEmpty)) H)
def rNotInA (X : Cx) : R2 := fun x y H Q => rInX X true x y H Q ∨ (∃ i j, x = .str i ∧ y = .str j ∧ Q (.bl (!(!(Builtin.Str.occurrences j i 0 j.length 1).isEmpty))) H)
theorem in_or (hu : X.A.units + 65 < cLine) : OpR X (compareOp .In) (rInA X) := OpR.or (op_inX hu) op_in_str
theorem notIn_or (hu : X.A.units + 65 < cLine) : OpR X (compareOp .NotIn) (rNotInA X) := OpR.or (op_notInX hu) op_notin_str
theorem in_f : OpF X F (rInA X) inD := by
  refine ⟨fun ρ G α σ H v u Q a b d w ra rb e q => ?_⟩
  unfold inD at e
  split at e
  · cases e; exact .inr ⟨_, _, repB_str ra, repB_str rb, q.bl w⟩
  · rename_i l
    split at e
    · rename_i h
      have h' : depOk 60 a = true ∧ depOks 60 l = true := by simpa using h
      cases e
      exact .inl ⟨a, l, repB_in w.sub 60 a v h'.1 ra, h'.1, h'.2, .inl (repB_in w.sub 61 (.lst l) u (by unfold depOk; exact h'.2) rb), q.bl w⟩
    · cases e
  · rename_i l
    split at e
    · rename_i h
      have h' : depOk 60 a = true ∧ depOks 60 l = true := by simpa using h
      cases e
      exact .inl ⟨a, l, repB_in w.sub 60 a v h'.1 ra, h'.1, h'.2, .inr (repB_in w.sub 61 (.tup l) u (by unfold depOk; exact h'.2) rb), q.bl w⟩
    · cases e
  · cases e
theorem notIn_f : OpF X F (rNotInA X) notInD := by
  refine ⟨fun ρ G α σ H v u Q a b d w ra rb e q => ?_⟩
  unfold notInD at e
  split at e
  · cases e; exact .inr ⟨_, _, repB_str ra, repB_str rb, q.bl w⟩
  · rename_i l
    split at e
    · rename_i h
      have h' : depOk 60 a = true ∧ depOks 60 l = true := by simpa using h
      cases e
      exact .inl ⟨a, l, repB_in w.sub 60 a v h'.1 ra, h'.1, h'.2, .inl (repB_in w.sub 61 (.lst l) u (by unfold depOk; exact h'.2) rb), q.bl w⟩
    · cases e
  · rename_i l
    split at e
    · rename_i h
      have h' : depOk 60 a = true ∧ depOks 60 l = true := by simpa using h
      cases e
      exact .inl ⟨a, l, repB_in w.sub 60 a v h'.1 ra, h'.1, h'.2, .inr (repB_in w.sub 61 (.tup l) u (by unfold depOk; exact h'.2) rb), q.bl w⟩
    · cases e
  · cases e

/-! ### calls of built-ins, methods: several values -/
def derefs (ρ : E) : List D → Option (List D)
  | [] => some []
  | d :: ds => match deref ρ d, derefs ρ ds with
    | some a, some as => some (a :: as)
    | _, _ => none
def opN (f : List D → Option D) (xs : List D) : M D := fun ρ => match derefs ρ xs with
  | some as => (match f as with
    | some d => .ok d ρ
    | none => .no)
  | none => .no
theorem opN_ok {f : List D → Option D} {xs : List D} {ρ : E} {P : PP D} {Z : PP Exn} {G : Hp} {α : Al} (h : okR P Z G α (opN f xs ρ)) : ∃ as d, derefs ρ xs = some as ∧ f as = some d ∧ P d ρ G α := by
  unfold opN at h
  cases e1 : derefs ρ xs with
  | none => rw [e1] at h; exact h.elim
  | some a =>
    rw [e1] at h
    dsimp only at h
    cases e3 : f a with
    | none => rw [e3] at h; exact h.elim
    | some d => rw [e3] at h; exact ⟨a, d, rfl, e3, h⟩
theorem W.looks {K : Kw} {ρ : E} {G H : Hp} {α : Al} {σ : L2.St} (w : W K F ρ G α σ H) : ∀ {ds as : List D} {vs : List V}, Paired (fun d v => TRep K σ G α d v) ds vs → derefs ρ ds = some as → Paired (fun d v => RepB K H G α d v) as vs
  | [], as, _, .nil, e => by unfold derefs at e; cases e; exact .nil
  | d :: ds, as, _, .cons r rs, e => by
    unfold derefs at e
    split at e
    · rename_i h1 h2
      cases e
      exact .cons (w.look r h1) (W.looks w rs h2)
    · cases e
structure CallF (X : Cx) (F : Frm) (r : List V → Hp → VK → Prop) (f : List D → Option D) : Prop where
  run : ∀ (ρ : E) (G : Hp) (α : Al) (σ : L2.St) (H : Hp) (vs : List V) (Q : VK) (as : List D) (d : D), W (kw X) F ρ G α σ H → Paired (fun d v => RepB (kw X) H G α d v) as vs → f as = some d → PV X F σ Q d ρ G α → r vs H Q
variable {ms : M (List D)} {x : Str} {p : Pos} {id T : String} {r : List V → Hp → VK → Prop} {f : List D → Option D}
theorem pd_callB (hc : CallR X (.builtin id) r) (hf : CallF X F r f) (hg : Gl X x) (hm : X.mg x = none) (hv : bootBuiltins x = some (.builtin id)) (ha : PDA X F Wx (e :: es) ms) (hn : x ≠ "__name__" := by decide) (hdb : (x == ("__debug__" : Str)) = false := by decide)
    (he : starEach (e :: es) X.env = (false, eval e X.env) :: starEach es X.env := by rfl) (hpl : (backTo pos (starEach es X.env)).any (·.1) = false := by rfl) : PD X F Wx (.Call (.Name x p) (e :: es) [] pos) (do let xs ← ms; opN f xs) :=
  PE.imp' (pe_callB hc hg hm hv ha hn hdb he hpl) fun σ H Q ⟨ρ, G, α, w, h⟩ => stepA PV.anti w h fun xs ρ1 vs H1 G1 α1 w1 x1 r1 h1 => by
    obtain ⟨as, d, e1, e2, q⟩ := opN_ok h1
    exact hf.run ρ1 G1 α1 σ H1 vs Q as d w1 (w1.looks r1 e1) e2 q
theorem pd_callTy (hc : CallR X (.type T) r) (hf : CallF X F r f) (hg : Gl X x) (hm : X.mg x = none) (hv : bootBuiltins x = some (.type T)) (ha : PDA X F Wx (e :: es) ms) (hn : x ≠ "__name__" := by decide) (hdb : (x == ("__debug__" : Str)) = false := by decide)
    (he : starEach (e :: es) X.env = (false, eval e X.env) :: starEach es X.env := by rfl) (hpl : (backTo pos (starEach es X.env)).any (·.1) = false := by rfl) : PD X F Wx (.Call (.Name x p) (e :: es) [] pos) (do let xs ← ms; opN f xs) :=
  PE.imp' (pe_callTy hc hg hm hv ha hn hdb he hpl) fun σ H Q ⟨ρ, G, α, w, h⟩ => stepA PV.anti w h fun xs ρ1 vs H1 G1 α1 w1 x1 r1 h1 => by
    obtain ⟨as, d, e1, e2, q⟩ := opN_ok h1
    exact hf.run ρ1 G1 α1 σ H1 vs Q as d w1 (w1.looks r1 e1) e2 q
/-- len -/
def lenD : List D → Option D
  | [.str x] => if x.length ≤ 16777216 then some (.int x.length) else none
  | [.lst l] => some (.int l.length)
  | [.tup l] => some (.int l.length)
  | [.scr l] => some (.int l.length)
  | _ => none
theorem one_of {R : D → V → Prop} {d : D} {vs : List V} (h : Paired R [d] vs) : ∃ v, vs = [v] ∧ R d v := by
  cases h with
  | cons a t => cases t; exact ⟨_, rfl, a⟩
theorem two_of {R : D → V → Prop} {d d' : D} {vs : List V} (h : Paired R [d, d'] vs) : ∃ v v', vs = [v, v'] ∧ R d v ∧ R d' v' := by
  cases h with
  | cons a t => obtain ⟨v, rfl, b⟩ := one_of t; exact ⟨_, _, rfl, a, b⟩
theorem three_of {R : D → V → Prop} {d d' d'' : D} {vs : List V} (h : Paired R [d, d', d''] vs) : ∃ v v' v'', vs = [v, v', v''] ∧ R d v ∧ R d' v' ∧ R d'' v'' := by
  cases h with
  | cons a t => obtain ⟨v, w, rfl, b, c⟩ := two_of t; exact ⟨_, _, _, rfl, a, b, c⟩
theorem len_f : CallF X F (fun xs H Q => ∃ x n, xs = [x] ∧ LenV X.K x H n ∧ Q (.int n) H) lenD := by
  refine ⟨fun ρ G α σ H vs Q as d w r e q => ?_⟩
  unfold lenD at e
  split at e
  · split at e
    · rename_i h
      cases e
      obtain ⟨v, rfl, rv⟩ := one_of r
      refine ⟨v, _, rfl, ?_, q.int w⟩
      rw [repB_str rv]; exact ⟨h, rfl⟩
    · cases e
  · cases e
    obtain ⟨v, rfl, rv⟩ := one_of r
    obtain ⟨a1, xs, rfl, h1, r1⟩ := rv
    refine ⟨_, xs.length, rfl, .inl ⟨xs, SqL.of h1, rfl⟩, ?_⟩
    rw [r1.length]; exact q.int w
  · cases e
    obtain ⟨v, rfl, rv⟩ := one_of r
    obtain ⟨a1, xs, rfl, h1, r1⟩ := repB_tup rv
    refine ⟨_, xs.length, rfl, .inr ⟨xs, SqT.sub h1 w.sub, rfl⟩, ?_⟩
    rw [r1.length]; exact q.int w
  · cases e
    obtain ⟨v, rfl, rv⟩ := one_of r
    have rv' : Rep (kw X) G α (.scr _) v := rv
    unfold Rep at rv'
    obtain ⟨a1, xs, rfl, h1, r1⟩ := rv'
    refine ⟨_, xs.length, rfl, .inl ⟨xs, SqL.sub h1 w.sub, rfl⟩, ?_⟩
    rw [r1.length]; exact q.int w
  · cases e
/-- int(x), x an int or a bool -/
def intD : List D → Option D
  | [.int i] => some (.int i)
  | [.bl b] => some (.int (if b then 1 else 0))
  | _ => none
theorem int_f : CallF X F (fun xs H Q => (∃ i, xs = [.int i] ∧ Q (.int i) H) ∨ ∃ k, xs = [.bl k] ∧ Q (.int (if k then 1 else 0)) H) intD := by
  refine ⟨fun ρ G α σ H vs Q as d w r e q => ?_⟩
  unfold intD at e
  split at e
  · cases e
    obtain ⟨v, rfl, rv⟩ := one_of r
    exact .inl ⟨_, by rw [repB_int rv], q.int w⟩
  · cases e
    obtain ⟨v, rfl, rv⟩ := one_of r
    exact .inr ⟨_, by rw [repB_bl rv], q.int w⟩
  · cases e
end
end BZ
end
section
set_option Elab.async false
set_option linter.all false
set_option maxRecDepth 100000
set_option maxHeartbeats 1000000
namespace BZ
open PySem PySem.Spec PyProof.Rows L2

/-! ## statements -/
inductive RS where
  | nx (e : E)
  | rt (s : S) (e : E)
  | bk (e : E)
  | ct (e : E)
  | ex (x : Exn) (e : E)
  | no
abbrev SM := E → RS
def SRep (K : Kw) (F : Frm) (ρ : E) (σ : L2.St) (H G : Hp) (α : Al) : S → V → Prop
  | .val d, v => Rep K G α d v
  | .own d, v => ∃ a, v = .ref a ∧ Own K H G α a d ∧ Free ρ G α σ a ∧ F.H0 a = none
  | _, _ => False
def okS (X : Cx) (F : Frm) (Wx : WX) (Z : Ends) (G : Hp) (α : Al) : RS → Prop
  | .nx ρ => ∀ σ H' G' α', W (kw X) F ρ G' α' σ H' → Ext G α G' α' → Z.nx σ H'
  | .bk ρ => ∀ σ H' G' α', W (kw X) F ρ G' α' σ H' → Ext G α G' α' → Z.bk σ H'
  | .ct ρ => ∀ σ H' G' α', W (kw X) F ρ G' α' σ H' → Ext G α G' α' → Z.ct σ H'
  | .rt s ρ => ∀ v σ H' G' α', W (kw X) F ρ G' α' σ H' → Ext G α G' α' → SRep (kw X) F ρ σ H' G' α' s v → Z.rt v H'
  | .ex x ρ => ∀ cls dx σ H' G' α', W (kw X) F ρ G' α' σ H' → Ext G α G' α' → ExR X x cls dx H' → Wx cls dx σ H'
  | .no => False
theorem okS.ext {X : Cx} {F : Frm} {Wx : WX} {Z : Ends} {G G' : Hp} {α α' : Al} {r : RS} (x : Ext G α G' α') (h : okS X F Wx Z G α r) : okS X F Wx Z G' α' r := by
  cases r with
  | nx ρ => exact fun σ H1 G1 α1 w y => h σ H1 G1 α1 w (x.trans y)
  | bk ρ => exact fun σ H1 G1 α1 w y => h σ H1 G1 α1 w (x.trans y)
  | ct ρ => exact fun σ H1 G1 α1 w y => h σ H1 G1 α1 w (x.trans y)
  | rt s ρ => exact fun v σ H1 G1 α1 w y r => h v σ H1 G1 α1 w (x.trans y) r
  | ex e ρ => exact fun c d σ H1 G1 α1 w y r => h c d σ H1 G1 α1 w (x.trans y) r
  | no => exact h.elim
def trS (X : Cx) (F : Frm) (Wx : WX) (m : SM) : TS := fun Z σ H => ∃ ρ G α, W (kw X) F ρ G α σ H ∧ okS X F Wx Z G α (m ρ)
abbrev PSD (X : Cx) (F : Frm) (Wx : WX) (st : Stmt) (m : SM) : Prop := PS X st (trS X F Wx m)
abbrev PSsD (X : Cx) (F : Frm) (Wx : WX) (st : List Stmt) (m : SM) : Prop := PSs X st (trS X F Wx m)
def sNext : SM := fun ρ => .nx ρ
def sSeq (a b : SM) : SM := fun ρ => match a ρ with
  | .nx ρ' => b ρ'
  | r => r
/-- reckon, then go on -/
def sBind {β : Type} (m : M β) (k : β → SM) : SM := fun ρ => match m ρ with
  | .ok b ρ' => k b ρ'
  | .ex x ρ' => .ex x ρ'
  | .no => .no
/-- a result that may be one's own -/
def PF (X : Cx) (F : Frm) (σ : L2.St) (Q : VK) : PP S := fun s ρ G α => ∀ v H' G' α', W (kw X) F ρ G' α' σ H' → Ext G α G' α' → SRep (kw X) F ρ σ H' G' α' s v → Q v H'
theorem PF.anti {X : Cx} {F : Frm} {σ : L2.St} {Q : VK} : Anti (PF X F σ Q) := fun b ρ G α G' α' x h v H1 G1 α1 w y r => h v H1 G1 α1 w (x.trans y) r
def trF (X : Cx) (F : Frm) (Wx : WX) (m : M S) : TE := fun σ H Q => ∃ ρ G α, W (kw X) F ρ G α σ H ∧ okR (PF X F σ Q) (PZ X F Wx σ) G α (m ρ)
abbrev PDF (X : Cx) (F : Frm) (Wx : WX) (e : Expr) (m : M S) : Prop := PE X e (trF X F Wx m)
def unS (s : S) : M D := fun ρ => match s with
  | .val d => .ok d ρ
  | .own d => .ok d ρ
  | _ => .no
section
variable {X : Cx} {F : Frm} {Wx : WX} {e a b c : Expr} {es : List Expr} {pos : Pos} {ma mb mc : M D} {mf : M S} {st : Stmt} {sts : List Stmt} {m k : SM}
theorem PS.imp' {t t' : TS} (h : PS X st t) (i : ∀ Z σ H, t' Z σ H → t Z σ H) : PS X st t' := ⟨fun pins s σ H Z I q => h.run pins s σ H Z I (i Z σ H q)⟩
theorem PSs.imp' {t t' : TS} (h : PSs X sts t) (i : ∀ Z σ H, t' Z σ H → t Z σ H) : PSs X sts t' := ⟨fun pins s σ H Z I q => h.run pins s σ H Z I (i Z σ H q)⟩
/-- a value given away -/
theorem unS_tr {σ : L2.St} {H : Hp} {Q : VK} (h : trE X F Wx (do let s ← mf; unS s) σ H Q) : trF X F Wx mf σ H Q := by
  obtain ⟨ρ, G, α, w, h⟩ := h
  exact ⟨ρ, G, α, w, h.bind.imp fun s ρ1 q v H1 G1 α1 w1 x1 r1 => by
    have q := okR.ext PV.anti PZ.anti x1 q
    cases s with
    | val d => exact (q : PV X F σ Q d ρ1 G1 α1) v H1 G1 α1 w1 Ext.refl (TRep.of r1)
    | own d =>
      obtain ⟨p, rfl, h1, h2, h3⟩ := r1
      obtain ⟨G2, w2, x2, r2⟩ := w1.freeze h1 h2 h3
      exact (q : PV X F σ Q d ρ1 G1 α1) _ H1 G2 α1 w2 x2 (TRep.of r2)
    | un => exact q.elim
    | lent _ => exact q.elim⟩
theorem pd_of_f (h : PDF X F Wx e mf) : PD X F Wx e (do let s ← mf; unS s) := PE.imp' h fun σ H Q q => unS_tr q
def toS (d : D) : M S := fun ρ => if d.plain then .ok (.val d) ρ else .no
theorem pf_of_d (h : PD X F Wx e ma) : PDF X F Wx e (do let d ← ma; toS d) :=
  PE.imp' h fun σ H Q ⟨ρ, G, α, w, h⟩ => ⟨ρ, G, α, w, h.bind.imp fun d ρ1 q v H1 G1 α1 w1 x1 r1 => by
    have q := okR.ext PF.anti PZ.anti x1 q
    unfold toS at q
    by_cases hp : d.plain = true
    · rw [if_pos hp] at q; exact q v H1 G1 α1 w1 Ext.refl (r1.plain hp)
    · rw [if_neg hp] at q; exact q.elim⟩
/-- new lists of one's own -/
def mkLstF (ds : List D) : M S := fun ρ => if ds.all D.plain && decide (ds.length ≤ 1000) then .ok (.own (.lst ds)) ρ else .no
theorem pf_lst {ms : M (List D)} (hs : PDA X F Wx es ms) : PDF X F Wx (.List es pos) (ms >>= mkLstF) :=
  PE.imp' (pe_lst hs) fun σ H Q ⟨ρ, G, α, w, h⟩ => stepA PF.anti w h fun ds ρ1 vs H1 G1 α1 w1 x1 r1 h1 => by
    unfold mkLstF at h1
    by_cases hp : (ds.all D.plain && decide (ds.length ≤ 1000)) = true
    · rw [if_pos hp] at h1
      have hp' : ds.all D.plain = true ∧ ds.length ≤ 1000 := by simpa using hp
      refine ⟨?_, fun p np => ?_⟩
      · rw [← paired_len r1]; exact Nat.le_trans hp'.2 (by decide)
      · obtain ⟨w2, f2, h2⟩ := w1.alloc0 (o := .lst vs) np
        exact h1 _ _ _ _ w2 Ext.refl ⟨p, rfl, ⟨vs, upd_same, rep_of_paired r1 hp'.1⟩, f2, h2⟩
    · rw [if_neg hp] at h1; exact h1.elim

/-! ### blocks -/
theorem pssd_nil : PSsD X F Wx [] sNext := PSs.imp' pss_nil fun Z σ H ⟨ρ, G, α, w, h⟩ => h σ H G α w Ext.refl
theorem pssd_cons (h : PSD X F Wx st m) (hs : PSsD X F Wx sts k) : PSsD X F Wx (st :: sts) (sSeq m k) :=
  PSs.imp' (pss_cons h hs) fun Z σ H ⟨ρ, G, α, w, h⟩ => ⟨ρ, G, α, w, by
    unfold sSeq at h
    cases e : m ρ with
    | nx ρ1 => rw [e] at h; exact fun σ1 H1 G1 α1 w1 x1 => ⟨ρ1, G1, α1, w1, h.ext x1⟩
    | rt s ρ1 => rw [e] at h; exact h
    | bk ρ1 => rw [e] at h; exact h
    | ct ρ1 => rw [e] at h; exact h
    | ex x ρ1 => rw [e] at h; exact h
    | no => rw [e] at h; exact h.elim⟩
theorem pssd_one (h : PSD X F Wx st m) : PSsD X F Wx [st] m := pss_one h
theorem sBind_ok {β : Type} {mb : M β} {k : β → SM} {ρ : E} {Z : Ends} {G H : Hp} {α : Al} {σ : L2.St} (w : W (kw X) F ρ G α σ H) (h : okS X F Wx Z G α (sBind mb k ρ)) : okR (fun b ρ' G' α' => okS X F Wx Z G' α' (k b ρ')) (PZ X F Wx σ) G α (mb ρ) := by
  unfold sBind at h
  cases e : mb ρ with
  | ok b ρ' => rw [e] at h; exact h
  | ex x ρ' => rw [e] at h; exact fun c d H1 G1 α1 w1 x1 r1 => h c d σ H1 G1 α1 w1 x1 r1
  | no => rw [e] at h; exact h.elim
theorem stepS {m : M D} {f : D → SM} {ρ : E} {G H : Hp} {α : Al} {σ : L2.St} {Q : VK} {Z : Ends} (w : W (kw X) F ρ G α σ H) (h : okS X F Wx Z G α (sBind m f ρ))
    (k : ∀ d ρ' v H' G' α', W (kw X) F ρ' G' α' σ H' → Ext G α G' α' → TRep (kw X) σ G' α' d v → okS X F Wx Z G' α' (f d ρ') → Q v H') : trE X F Wx m σ H Q :=
  ⟨ρ, G, α, w, (sBind_ok w h).imp fun d ρ' q v H' G' α' w' x r => k d ρ' v H' G' α' w' x r (q.ext x)⟩
theorem stepSF {m : M S} {f : S → SM} {ρ : E} {G H : Hp} {α : Al} {σ : L2.St} {Q : VK} {Z : Ends} (w : W (kw X) F ρ G α σ H) (h : okS X F Wx Z G α (sBind m f ρ))
    (k : ∀ d ρ' v H' G' α', W (kw X) F ρ' G' α' σ H' → Ext G α G' α' → SRep (kw X) F ρ' σ H' G' α' d v → okS X F Wx Z G' α' (f d ρ') → Q v H') : trF X F Wx m σ H Q :=
  ⟨ρ, G, α, w, (sBind_ok w h).imp fun d ρ' q v H' G' α' w' x r => k d ρ' v H' G' α' w' x r (q.ext x)⟩
theorem stepST {m : M Bool} {f : Bool → SM} {ρ : E} {G H : Hp} {α : Al} {σ : L2.St} {Q : Bool → Hp → Prop} {Z : Ends} (w : W (kw X) F ρ G α σ H) (h : okS X F Wx Z G α (sBind m f ρ))
    (k : ∀ d ρ' H' G' α', W (kw X) F ρ' G' α' σ H' → Ext G α G' α' → okS X F Wx Z G' α' (f d ρ') → Q d H') : trT X F Wx m σ H Q :=
  ⟨ρ, G, α, w, (sBind_ok w h).imp fun d ρ' q H' G' α' w' x => k d ρ' H' G' α' w' x (q.ext x)⟩
theorem psd_expr (h : PD X F Wx e ma) (hs : swapsWith e none pos.line X.env = pure false := by rfl) : PSD X F Wx (.Expr e pos) (sBind ma fun _ => sNext) :=
  PS.imp' (ps_expr h hs) fun Z σ H ⟨ρ, G, α, w, h⟩ => stepS w h fun d ρ1 v H1 G1 α1 w1 x1 r1 h1 => h1 σ H1 G1 α1 w1 Ext.refl
def sPass : SM := sNext
theorem psd_pass : PSD X F Wx (.Pass pos) sNext := PS.imp' ps_pass fun Z σ H ⟨ρ, G, α, w, h⟩ => h σ H G α w Ext.refl
def sBreak : SM := fun ρ => .bk ρ
def sCont : SM := fun ρ => .ct ρ
theorem psd_break : PSD X F Wx (.Break pos) sBreak := PS.imp' ps_break fun Z σ H ⟨ρ, G, α, w, h⟩ => h σ H G α w Ext.refl
theorem psd_cont : PSD X F Wx (.Continue pos) sCont := PS.imp' ps_continue fun Z σ H ⟨ρ, G, α, w, h⟩ => h σ H G α w Ext.refl
theorem psd_if {mt : M Bool} {sts' : List Stmt} (hc : PDT X F Wx c mt) (ha : PSsD X F Wx sts m) (hb : PSsD X F Wx sts' k) : PSD X F Wx (.If c sts sts' pos) (sBind mt fun t => if t = true then m else k) :=
  PS.imp' (ps_if hc ha hb) fun Z σ H ⟨ρ, G, α, w, h⟩ => stepST w h fun t ρ1 H1 G1 α1 w1 x1 h1 => by
    cases t with
    | true => exact ⟨ρ1, G1, α1, w1, h1⟩
    | false => exact ⟨ρ1, G1, α1, w1, h1⟩
/-- return -/
def retD (d : D) : SM := fun ρ => match d with
  | .sl i => (match ρ.sl[i]? with
    | some (.own d) => .rt (.own d) (ρ.set i .un)
    | _ => .no)
  | d => .rt (.val d) ρ
theorem W.dropOwn {K : Kw} {ρ : E} {G H : Hp} {α : Al} {σ : L2.St} (w : W K F ρ G α σ H) {i : Nat} {d : D} (e : ρ.sl[i]? = some (.own d)) : ∃ a, σ[i]? = some (some (.ref a)) ∧ W K F (ρ.set i .un) G α σ H ∧ Own K H G α a d ∧ Free (ρ.set i .un) G α σ a ∧ F.H0 a = none := by
  obtain ⟨a, h1, h2, h3, h4, h5⟩ := w.own i d e
  have hl : i < ρ.sl.length := (List.getElem?_eq_some_iff.mp e).1
  have w1 : W K F (ρ.set i .un) G α σ H := by
    have q := w.drop i (some (.ref a))
    have hl' : i < σ.length := by rw [w.len]; exact hl
    have : σ.set i (some (.ref a)) = σ := by
      refine List.ext_getElem? fun j => ?_
      by_cases z : i = j
      · subst z; rw [List.getElem?_set_self hl', h1]
      · rw [List.getElem?_set_ne z]
    rw [this] at q; exact q
  refine ⟨a, h1, w1, h2, ⟨h3, h5, fun j d' q z => ?_⟩, h4⟩
  have q : (ρ.sl.set i .un)[j]? = some (.own d') := q
  by_cases y : i = j
  · subst y; rw [List.getElem?_set_self hl] at q; cases q
  · rw [List.getElem?_set_ne y] at q
    exact y (w.sep i j d d' a e q h1 z)
theorem psd_ret (h : PD X F Wx e ma) : PSD X F Wx (.Return (some e) pos) (sBind ma retD) :=
  PS.imp' (ps_ret h) fun Z σ H ⟨ρ, G, α, w, h⟩ => stepS w h fun d ρ1 v H1 G1 α1 w1 x1 r1 h1 => by
    cases d with
    | sl i =>
      unfold retD at h1
      dsimp only at h1
      cases e : ρ1.sl[i]? with
      | none => rw [e] at h1; exact h1.elim
      | some s =>
        rw [e] at h1
        cases s with
        | own d =>
          obtain ⟨a, k1, w2, k2, k3, k4⟩ := w1.dropOwn e
          have : σ[i]? = some (some v) := r1
          rw [k1] at this; cases this
          exact h1 _ σ H1 G1 α1 w2 Ext.refl ⟨a, rfl, k2, k3, k4⟩
        | un => exact h1.elim
        | val _ => exact h1.elim
        | lent _ => exact h1.elim
    | _ => exact h1 v σ H1 G1 α1 w1 Ext.refl r1
theorem psd_retF (h : PDF X F Wx e mf) : PSD X F Wx (.Return (some e) pos) (sBind mf fun s ρ => .rt s ρ) :=
  PS.imp' (ps_ret h) fun Z σ H ⟨ρ, G, α, w, h⟩ => stepSF w h fun d ρ1 v H1 G1 α1 w1 x1 r1 h1 => h1 v σ H1 G1 α1 w1 Ext.refl r1
theorem psd_retN : PSD X F Wx (.Return none pos) (fun ρ => .rt (.val .non) ρ) := PS.imp' ps_retN fun Z σ H ⟨ρ, G, α, w, h⟩ => h _ σ H G α w Ext.refl (by show Rep _ _ _ _ _; unfold Rep; rfl)
/-- a ghost step ahead of a statement: the object of a slot is given away -/
def frz (i : Nat) : E → Option E := fun ρ => match ρ.sl[i]? with
  | some (.own d) => some (ρ.set i (.val d))
  | some (.val _) => some ρ
  | some .un => some ρ
  | _ => none
def sFrz (i : Nat) (m : SM) : SM := fun ρ => match frz i ρ with
  | some ρ' => m ρ'
  | none => .no
theorem frz_ok {K : Kw} {ρ ρ' : E} {G H : Hp} {α : Al} {σ : L2.St} {i : Nat} (w : W K F ρ G α σ H) (e : frz i ρ = some ρ') : ∃ G', W K F ρ' G' α σ H ∧ Ext G α G' α := by
  unfold frz at e
  split at e
  · rename_i d h
    cases e
    exact w.thaw h
  · cases e; exact ⟨G, w, Ext.refl⟩
  · cases e; exact ⟨G, w, Ext.refl⟩
  · cases e
theorem psd_frz (i : Nat) (h : PSD X F Wx st m) : PSD X F Wx st (sFrz i m) :=
  PS.imp' h fun Z σ H ⟨ρ, G, α, w, h⟩ => by
    unfold sFrz at h
    cases e : frz i ρ with
    | none => rw [e] at h; exact h.elim
    | some ρ' =>
      rw [e] at h
      obtain ⟨G', w', x⟩ := frz_ok w e
      exact ⟨ρ', G', α, w', h.ext x⟩
/-- x = e -/
def setS (i : Nat) (s : S) : SM := fun ρ => match s with
  | .val d => .nx (ρ.set i (.val d))
  | .own d => .nx (ρ.set i (.own d))
  | _ => .no
theorem psd_setF {i : Nat} {x : Str} {pos' : Pos} (h : PS X (.Assign [.Name x pos'] e pos) (tAsg (trF X F Wx mf) (gName i))) : PSD X F Wx (.Assign [.Name x pos'] e pos) (sBind mf (setS i)) :=
  PS.imp' h fun Z σ H ⟨ρ, G, α, w, h⟩ => stepSF w h fun d ρ1 v H1 G1 α1 w1 x1 r1 h1 => by
    cases d with
    | val d => exact h1 _ H1 G1 α1 (w1.setVal r1) Ext.refl
    | own d =>
      obtain ⟨a, rfl, k1, k2, k3⟩ := r1
      exact h1 _ H1 G1 α1 (w1.setOwn k1 k2 k3) Ext.refl
    | un => exact h1.elim
    | lent _ => exact h1.elim
def setD (i : Nat) (d : D) : SM := fun ρ => if d.plain then .nx (ρ.set i (.val d)) else .no
theorem psd_set {i : Nat} {x : Str} {pos' : Pos} (h : PS X (.Assign [.Name x pos'] e pos) (tAsg (trE X F Wx ma) (gName i))) : PSD X F Wx (.Assign [.Name x pos'] e pos) (sBind ma (setD i)) :=
  PS.imp' h fun Z σ H ⟨ρ, G, α, w, h⟩ => stepS w h fun d ρ1 v H1 G1 α1 w1 x1 r1 h1 => by
    unfold setD at h1
    by_cases hp : d.plain = true
    · rw [if_pos hp] at h1; exact h1 _ H1 G1 α1 (w1.setVal (r1.plain hp)) Ext.refl
    · rw [if_neg hp] at h1; exact h1.elim
end
end BZ
end
section
set_option Elab.async false
set_option linter.all false
set_option maxRecDepth 100000
set_option maxHeartbeats 1000000
namespace BZ
open PySem PySem.Spec PyProof.Rows L2

/-! ## defs -/
inductive RF where
  | ok (s : S) (st : List D)
  | ex (x : Exn) (st : List D)
  | no
abbrev Fn := List D → List D → RF
section
variable {K : Kw} {F : Frm} {ρ : E} {G H G' H' : Hp} {α α' : Al} {σ : L2.St} {st' : List D}
abbrev fr0 (T : Addr → Prop) (H G : Hp) (α : Al) (n : Nat) : Frm := ⟨H, G, n, α, T⟩
/-- at a call -/
theorem W.call (w : W K F ρ G α σ H) : W K (fr0 F.T H G α ρ.st.length) ⟨[], ρ.st⟩ G α [] H :=
  ⟨w.sub, rfl, fun i d e => by simp at e, fun i d e => by simp at e, fun i d e => by simp at e, fun i j d d' a e => by simp at e, fun n d e => by
    obtain ⟨a, h1, h2, h3, h4⟩ := w.cell n d e
    exact ⟨a, h1, h2, h3, .inl (List.getElem?_eq_some_iff.mp e).1⟩, w.dom, w.inj, fun _ _ => rfl, fun a o e _ _ => e, fun a o e => ⟨o, e⟩, fun a o e => .inl ⟨o, e⟩, Nat.le_refl _, w.tab⟩
/-- behind it -/
theorem W.back (w : W K F ρ G α σ H) (c : W K (fr0 F.T H G α ρ.st.length) ⟨[], st'⟩ G' α' [] H') (x : Ext G α G' α') : W K F { ρ with st := st' } G' α' σ H' := by
  have h0 : ∀ a, H a = none → F.H0 a = none := fun a n => by
    cases q : F.H0 a with
    | none => rfl
    | some u => obtain ⟨o, e⟩ := w.there a u q; rw [n] at e; cases e
  refine ⟨c.sub, w.len, fun i d e => ?_, fun i d e => ?_, fun i d e => (let ⟨a, h1, h2, h3⟩ := w.lent i d e; ⟨a, h1, h2.keep x rfl, h3⟩), fun i j d d' a e1 e2 => w.sep i j d d' a e1 e2, fun n d e => ?_, c.dom, c.inj, fun n hn => ?_, fun a o e1 e2 e3 => ?_, fun a o e => ?_, fun a o e => ?_, ?_, c.tab⟩
  · obtain ⟨v, h1, h2⟩ := w.slot i d e
    exact ⟨v, h1, Rep.ext x _ _ h2⟩
  · obtain ⟨a, h1, h2, h3, h4, h5⟩ := w.own i d e
    obtain ⟨o, ho, ht⟩ := own_notTbl h2
    have k : H' a = some o := c.keep a o ho (fun n _ z => h5 n z) ht
    refine ⟨a, h1, h2.keep x (by rw [k, ho]), ?_, h4, fun n z => ?_⟩
    · cases q : G' a with
      | none => rfl
      | some u =>
        rcases c.gnew a u q with ⟨u', z⟩ | z
        · have z : G a = some u' := z
          rw [h3] at z; cases z
        · have z : H a = none := z
          rw [ho] at z; cases z
    · by_cases hn : n < ρ.st.length
      · have : α' n = α n := c.old n hn
        rw [this] at z; exact h5 n z
      · obtain ⟨b, k1, k2, k3, k4⟩ := c.cell n _ (List.getElem?_eq_getElem (c.dom n a z))
        rw [z] at k1; cases k1
        rcases k4 with k4 | k4
        · exact hn k4
        · have k4 : H a = none := k4
          rw [ho] at k4; cases k4
  · obtain ⟨a, h1, h2, h3, h4⟩ := c.cell n d e
    refine ⟨a, h1, h2, h3, ?_⟩
    rcases h4 with h4 | h4
    · have h4 : n < ρ.st.length := h4
      obtain ⟨b, k1, k2, k3, k4⟩ := w.cell n _ (List.getElem?_eq_getElem h4)
      have : α' n = α n := c.old n h4
      rw [this, k1] at h1; cases h1
      exact k4
    · exact .inr (h0 a h4)
  · have : α' n = α n := c.old n (Nat.lt_of_lt_of_le hn w.n0)
    rw [this]; exact w.old n hn
  · have e := w.keep a o e1 e2 e3
    refine c.keep a o e (fun n hn z => ?_) e3
    have hn : n < ρ.st.length := hn
    have z : α n = some a := z
    obtain ⟨b, k1, k2, k3, k4⟩ := w.cell n _ (List.getElem?_eq_getElem hn)
    rw [z] at k1; cases k1
    rcases k4 with k4 | k4
    · exact e2 n k4 (by rw [← w.old n k4]; exact z)
    · rw [k4] at e1; cases e1
  · obtain ⟨o', e'⟩ := w.there a o e
    exact c.there a o' e'
  · rcases c.gnew a o e with ⟨u, z⟩ | z
    · exact w.gnew a u z
    · exact .inr (h0 a z)
  · exact Nat.le_trans w.n0 c.n0
theorem SRep.back (w : W K F ρ G α σ H) {s : S} {v : V} (r : SRep K (fr0 F.T H G α ρ.st.length) ⟨[], st'⟩ [] H' G' α' s v) : SRep K F { ρ with st := st' } σ H' G' α' s v := by
  cases s with
  | val d => exact r
  | own d =>
    obtain ⟨a, rfl, h1, h2, h3⟩ := r
    have h3 : H a = none := h3
    refine ⟨a, rfl, h1, ⟨h2.g, h2.cl, fun i d' e z => ?_⟩, ?_⟩
    · obtain ⟨b, k1, k2, _⟩ := w.own i d' e
      rw [z] at k1; cases k1
      obtain ⟨o, ho⟩ := k2.some
      rw [h3] at ho; cases ho
    · cases q : F.H0 a with
      | none => rfl
      | some u => obtain ⟨o, e⟩ := w.there a u q; rw [h3] at e; cases e
  | un => exact r.elim
  | lent _ => exact r.elim
/-- the slots forgotten -/
theorem W.forget (w : W K F ρ G α σ H) : W K F ⟨[], ρ.st⟩ G α [] H :=
  ⟨w.sub, rfl, fun i d e => by simp at e, fun i d e => by simp at e, fun i d e => by simp at e, fun i j d d' a e => by simp at e, w.cell, w.dom, w.inj, w.old, w.keep, w.there, w.gnew, w.n0, w.tab⟩
theorem SRep.forget {s : S} {v : V} (r : SRep K F ρ σ H G α s v) : SRep K F ⟨[], ρ.st⟩ [] H G α s v := by
  cases s with
  | val d => exact r
  | own d =>
    obtain ⟨a, rfl, h1, h2, h3⟩ := r
    exact ⟨a, rfl, h1, ⟨h2.g, h2.cl, fun i d' e => by simp at e⟩, h3⟩
  | un => exact r.elim
  | lent _ => exact r.elim
end
/-- what a def promises -/
def spD (T : Addr → Prop) (K : Kw) (mg : Str → Option Value) (np : Nat) (f : Fn) : Sp := fun vs H Q Ex => ∃ ds G α st, W K (fr0 T H G α st.length) ⟨[], st⟩ G α [] H ∧ RepL K G α ds vs ∧ ds.length = np ∧
  match f ds st with
  | .ok s st' => ∀ v H' G' α', W K (fr0 T H G α st.length) ⟨[], st'⟩ G' α' [] H' → Ext G α G' α' → SRep K (fr0 T H G α st.length) ⟨[], st'⟩ [] H' G' α' s v → Q v H'
  | .ex x st' => ∀ cls dx H' G' α', W K (fr0 T H G α st.length) ⟨[], st'⟩ G' α' [] H' → Ext G α G' α' → ExV mg K x cls dx H' → Ex cls dx H'
  | .no => False
theorem spD_len {T : Addr → Prop} {K : Kw} {mg : Str → Option Value} {np : Nat} {f : Fn} : ∀ vs H Q Ex, spD T K mg np f vs H Q Ex → vs.length = np := fun vs H Q Ex h => by
  obtain ⟨ds, G, α, st, w, r, l, _⟩ := h
  rw [r.length, l]
def callM (np : Nat) (f : Fn) (ds : List D) : M S := fun ρ => if ds.all D.plain && decide (ds.length = np) then (match f ds ρ.st with
  | .ok s st' => .ok s { ρ with st := st' }
  | .ex x st' => .ex x { ρ with st := st' }
  | .no => .no) else .no
def callM0 (f : Fn) : M S := fun ρ => match f [] ρ.st with
  | .ok s st' => .ok s { ρ with st := st' }
  | _ => .no
section
variable {X : Cx} {F : Frm} {Wx : WX} {e : Expr} {es : List Expr} {pos p : Pos} {x : Str} {CX : CXT} {k j np : Nat} {fa : Addr} {fd : FuncData} {ps : List Str} {f : Fn} {ms : M (List D)}
/-- a def that may be called by its name -/
structure Cal (X : Cx) (T : Addr → Prop) (CX : CXT) (k : Nat) (x : Str) (np : Nat) (f : Fn) : Prop where
  ex : ∃ (fa : Addr) (fd : FuncData) (ps : List Str), FnOk X.prog X.w X.K X.mg X.base CX k fa fd ps (spD T (kw X) X.mg np f) ∧ X.mg x = some (.ref fa) ∧ PySem.W.keepIn X.K (.ref fa) = true ∧ Binds X.K fd ps []
theorem pdf_call (C : Cal X F.T CX k x np f) (hr : Room k X.A) (hx : ∀ σ, PassesAt CX X σ (WE Wx σ)) (hg : Gl X x) (ha : PDA X F Wx (e :: es) ms)
    (hdb : (x == ("__debug__" : Str)) = false := by decide) (he : starEach (e :: es) X.env = (false, eval e X.env) :: starEach es X.env := by rfl) (hpl : (backTo pos (starEach es X.env)).any (·.1) = false := by rfl) :
    PDF X F Wx (.Call (.Name x p) (e :: es) [] pos) (ms >>= callM np f) := by
  obtain ⟨fa, fd, ps, FO, hm, hk, hb⟩ := C.ex
  refine PE.imp' (pe_callS (E := WE Wx) FO hr hg hm hk hb hx ha hdb he hpl) fun σ H Q ⟨ρ, G, α, w, h⟩ => stepA PF.anti w h fun ds ρ1 vs H1 G1 α1 w1 x1 r1 h1 => ?_
  unfold callM at h1
  by_cases hp : (ds.all D.plain && decide (ds.length = np)) = true
  · rw [if_pos hp] at h1
    have hp' : ds.all D.plain = true ∧ ds.length = np := by simpa using hp
    refine ⟨ds, G1, α1, ρ1.st, w1.call, rep_of_paired r1 hp'.1, hp'.2, ?_⟩
    cases ef : f ds ρ1.st with
    | ok s st' =>
      rw [ef] at h1
      exact fun v H' G' α' w' x' r' => h1 v H' G' α' (w1.back w' x') x' (SRep.back w1 r')
    | ex y st' =>
      rw [ef] at h1
      exact fun cls dx H' G' α' w' x' r' => h1 cls dx H' G' α' (w1.back w' x') x' r'
    | no => rw [ef] at h1; exact h1.elim
  · rw [if_neg hp] at h1; exact h1.elim
theorem pdf_call0 (C : Cal X F.T CX k x 0 f) (hr : Room k X.A) (hx : Passes CX X (fun _ _ _ => False)) (hg : Gl X x) (hdb : (x == ("__debug__" : Str)) = false := by decide) :
    PDF X F Wx (.Call (.Name x p) [] [] pos) (callM0 f) := by
  obtain ⟨fa, fd, ps, FO, hm, hk, hb⟩ := C.ex
  refine PE.imp' (pe_call0 FO hr hg hm hk hb .nil hx hdb) fun σ H Q ⟨ρ, G, α, w, h1⟩ => ?_
  refine ⟨[], G, α, ρ.st, w.call, RepL.nil, rfl, ?_⟩
  unfold callM0 at h1
  cases ef : f [] ρ.st with
  | ok s st' =>
    rw [ef] at h1
    exact fun v H' G' α' w' x' r' => h1 v H' G' α' (w.back w' x') x' (SRep.back w r')
  | ex y st' => rw [ef] at h1; exact h1.elim
  | no => rw [ef] at h1; exact h1.elim
end
/-- the slots at a def's entry -/
def slots0 (n : Nat) (ds : List D) : List S := ds.map .val ++ List.replicate (n - ds.length) .un
/-- a def by its body -/
def fnOf (n : Nat) (m : SM) : Fn := fun ds st => match m ⟨slots0 n ds, st⟩ with
  | .nx ρ => .ok (.val .non) ρ.st
  | .rt s ρ => .ok s ρ.st
  | .ex x ρ => .ex x ρ.st
  | _ => .no
theorem W.entry {T : Addr → Prop} {K : Kw} {G H : Hp} {α : Al} {st ds : List D} {vs : List V} {N : List Str} (w : W K (fr0 T H G α st.length) ⟨[], st⟩ G α [] H) (r : RepL K G α ds vs) (hl : ds.length ≤ N.length) : W K (fr0 T H G α st.length) ⟨slots0 N.length ds, st⟩ G α (L2.start N vs) H := by
  have hv : vs.length = ds.length := r.length
  have own0 : ∀ (i : Nat) (s : S), (slots0 N.length ds)[i]? = some s → (∃ d, s = .val d ∧ ds[i]? = some d) ∨ s = .un := fun i s e => by
    unfold slots0 at e
    by_cases hi : i < ds.length
    · rw [List.getElem?_append_left (by simpa using hi), List.getElem?_map, List.getElem?_eq_getElem hi] at e
      cases e
      exact .inl ⟨_, rfl, List.getElem?_eq_getElem hi⟩
    · rw [List.getElem?_append_right (by simpa using hi)] at e
      rw [List.getElem?_replicate] at e
      split at e
      · cases e; exact .inr rfl
      · cases e
  refine ⟨w.sub, ?_, fun i d e => ?_, fun i d e => ?_, fun i d e => ?_, fun i j d d' a e => ?_, w.cell, w.dom, w.inj, w.old, w.keep, w.there, w.gnew, w.n0, w.tab⟩
  · show (L2.start N vs).length = (slots0 N.length ds).length
    unfold L2.start slots0
    simp [hv]
  · rcases own0 i _ e with ⟨d', e1, e2⟩ | e1
    · cases e1
      obtain ⟨x, h1, h2⟩ := r.get e2
      refine ⟨x, ?_, h2⟩
      have hi := (List.getElem?_eq_some_iff.mp h1).1
      unfold L2.start
      rw [List.getElem?_append_left (by simpa using hi), List.getElem?_map, h1]; rfl
    · cases e1
  · rcases own0 i _ e with ⟨d', e1, e2⟩ | e1 <;> cases e1
  · rcases own0 i _ e with ⟨d', e1, e2⟩ | e1 <;> cases e1
  · rcases own0 i _ e with ⟨d', e1, e2⟩ | e1 <;> cases e1
section
variable {P : Program} {w : World} {K : PySem.W.Frag} {mg : Str → Option Value} {base : Heap}
/-- THE RULE for a def -/
theorem fn_okD {T : Addr → Prop} {CX : CXT} {x qual : Str} {st : Stmt} {f : Addr} {fd : FuncData} {N ps : List Str} {k : Nat} {m : SM} (FU : Fun K x qual st f fd) (S : FnScope N ps (defScope st)) (hl : ps.length ≤ N.length)
    (hbody : ∀ (cdv : Value) (A : Around) (outer : List Env) (s : Shared) (H : Hp) (E : XK) (H0 G0 : Hp) (n0 : Nat) (α0 : Al), fd.code = cdv → Room k (A.deeper (envOfC qual (defScope st) s.heap.objs.size f cdv)) → PSsD (cxOf CX P w K mg base N qual (defScope st) f cdv A outer s H E) ⟨H0, G0, n0, α0, T⟩ (fun cls d _ H => E cls d H) (defBody st) m) :
    FnOk P w K mg base CX (k + 1) f fd ps (spD T ⟨K, w⟩ mg ps.length (fnOf N.length m)) := by
  obtain ⟨oc, od, kV, doc, pm, an, cdv, ct, osl, rfl, lk, hcd⟩ := FU.ex
  refine fn_of lk hcd S spD_len fun A outer s H vs Q E hr hsp => ?_
  obtain ⟨ds, G, α, sto, w0, r, l, q⟩ := hsp
  refine ⟨_, hbody cdv A outer s H E H G sto.length α rfl hr, ⟨slots0 N.length ds, sto⟩, G, α, w0.entry r (by rw [l]; exact hl), ?_⟩
  unfold fnOf at q
  cases e : m ⟨slots0 N.length ds, sto⟩ with
  | nx ρ => rw [e] at q; exact fun σ H' G' α' w' x' => q _ H' G' α' w'.forget x' (by show Rep _ _ _ _ _; unfold Rep; rfl)
  | rt s ρ => rw [e] at q; exact fun v σ H' G' α' w' x' r' => q v H' G' α' w'.forget x' r'.forget
  | ex y ρ => rw [e] at q; exact fun cls dx σ H' G' α' w' x' r' => q cls dx H' G' α' w'.forget x' r'
  | bk ρ => rw [e] at q; exact q.elim
  | ct ρ => rw [e] at q; exact q.elim
  | no => rw [e] at q; exact q.elim
end
end BZ
end
section
set_option Elab.async false
set_option linter.all false
set_option maxRecDepth 100000
set_option maxHeartbeats 1000000
namespace BZ
open PySem PySem.Spec PyProof.Rows L2

/-! ## targets -/
inductive Tg where
  | sl (i : Nat)
  | unp (l : List Tg)
mutual
def Tg.set : Tg → D → E → Option E
  | .sl i, d, ρ => if d.plain then some (ρ.set i (.val d)) else none
  | .unp l, .tup ds, ρ => if l.length = ds.length then Tg.sets l ds ρ else none
  | .unp _, _, _ => none
def Tg.sets : List Tg → List D → E → Option E
  | [], [], ρ => some ρ
  | t :: l, d :: ds, ρ => match t.set d ρ with
    | some ρ' => Tg.sets l ds ρ'
    | none => none
  | _, _, _ => none
end
mutual
def Tg.g (K : PySem.W.Frag) : Tg → TG
  | .sl i => gName i
  | .unp l => gTup K l.length (Tg.gs K l)
def Tg.gs (K : PySem.W.Frag) : List Tg → TGs
  | [] => gNil
  | t :: l => gCons (t.g K) (Tg.gs K l)
end
mutual
def Tg.inn (vs : List Nat) : Tg → Bool
  | .sl i => vs.contains i
  | .unp l => Tg.inns vs l
def Tg.inns (vs : List Nat) : List Tg → Bool
  | [] => true
  | t :: l => t.inn vs && Tg.inns vs l
end
theorem wipe_cons {σ : L2.St} {i : Nat} {r : List Nat} : wipe σ (i :: r) = (wipe σ r).set i none := rfl
theorem wipe_set {σ : L2.St} {i : Nat} {v : Option V} : ∀ {vs : List Nat}, i ∈ vs → wipe (σ.set i v) vs = wipe σ vs
  | [], h => by cases h
  | j :: r, h => by
    rw [wipe_cons, wipe_cons]
    by_cases m : i ∈ r
    · rw [wipe_set m]
    · have : i = j := by
        rcases List.mem_cons.mp h with e | e
        · exact e
        · exact absurd e m
      subst this
      have : ∀ (vs : List Nat) (τ : L2.St), i ∉ vs → wipe (τ.set i v) vs = (wipe τ vs).set i v := by
        intro vs
        induction vs with
        | nil => intro τ _; rfl
        | cons k vs ih =>
          intro τ hk
          have hk' : i ≠ k ∧ i ∉ vs := by simpa using hk
          rw [wipe_cons, wipe_cons, ih τ hk'.2, List.set_comm _ _ hk'.1]
      rw [this r σ m, List.set_set]
section
variable {K : Kw} {F : Frm} {G H : Hp} {α : Al}
mutual
theorem Tg.ok {ρ ρ' : E} {σ : L2.St} {v : V} {Q : L2.St → Hp → Prop} (w : W K F ρ G α σ H) : ∀ (t : Tg) (d : D), Rep K G α d v → t.set d ρ = some ρ' →
    (∀ σ', W K F ρ' G α σ' H → (∀ vs, t.inn vs = true → wipe σ' vs = wipe σ vs) → Q σ' H) → t.g K.K v σ H Q
  | .sl i, d, r, e, k => by
    unfold Tg.set at e
    by_cases hp : d.plain = true
    · rw [if_pos hp] at e
      cases e
      exact k _ (w.setVal r) fun vs h => wipe_set (by unfold Tg.inn at h; simpa using h)
    · rw [if_neg hp] at e; cases e
  | .unp l, d, r, e, k => by
    cases d with
    | tup ds =>
      unfold Tg.set at e
      by_cases hl : l.length = ds.length
      · rw [if_pos hl] at e
        unfold Rep at r
        obtain ⟨a, xs, rfl, s, r⟩ := r
        unfold Tg.g
        exact ⟨a, xs, rfl, SqT.sub s w.sub, by rw [r.length, hl], Tg.oks w l ds xs r e fun σ' w' h => k σ' w' fun vs q => h vs (by unfold Tg.inn at q; exact q)⟩
      · rw [if_neg hl] at e; cases e
    | _ => unfold Tg.set at e; cases e
theorem Tg.oks {ρ ρ' : E} {σ : L2.St} {Q : L2.St → Hp → Prop} (w : W K F ρ G α σ H) : ∀ (l : List Tg) (ds : List D) (xs : List V), RepL K G α ds xs → Tg.sets l ds ρ = some ρ' →
    (∀ σ', W K F ρ' G α σ' H → (∀ vs, Tg.inns vs l = true → wipe σ' vs = wipe σ vs) → Q σ' H) → Tg.gs K.K l xs σ H Q
  | [], ds, xs, r, e, k => by
    cases ds with
    | nil =>
      unfold Tg.sets at e
      cases e
      unfold RepL at r
      subst r
      unfold Tg.gs
      exact ⟨rfl, k σ w fun _ _ => rfl⟩
    | cons _ _ => unfold Tg.sets at e; cases e
  | t :: l, ds, xs, r, e, k => by
    cases ds with
    | nil => unfold Tg.sets at e; cases e
    | cons d ds =>
      unfold Tg.sets at e
      cases e1 : t.set d ρ with
      | none => rw [e1] at e; cases e
      | some ρ1 =>
        rw [e1] at e
        unfold RepL at r
        obtain ⟨x, r', rfl, r1, r2⟩ := r
        unfold Tg.gs
        exact ⟨x, r', rfl, Tg.ok w t d r1 e1 fun σ1 w1 h1 => Tg.oks w1 l ds r' r2 e fun σ2 w2 h2 => k σ2 w2 fun vs q => by
          unfold Tg.inns at q
          have q' : t.inn vs = true ∧ Tg.inns vs l = true := by simpa using q
          rw [h2 vs q'.2, h1 vs q'.1]⟩
end
end

/-! ## what is walked -/
def WalkOk (K : Kw) (J : It) (ds : List D) (G : Hp) (α : Al) : Prop := ∀ (F : Frm) (ρ : E) (G1 : Hp) (α1 : Al) (σ : L2.St) (H : Hp), W K F ρ G1 α1 σ H → Ext G α G1 α1 →
  (∀ i, i < ds.length → J.go i H) ∧ (∀ i, ds.length ≤ i → J.stop i H) ∧ ∀ i d x H', ds[i]? = some d → J.yld i H x H' → ∃ G2, W K F ρ G2 α1 σ H' ∧ Ext G1 α1 G2 α1 ∧ Rep K G2 α1 d x ∧ (∀ a o, H a = some o → H' a = some o) ∧ ∀ a o, G2 a = some o → (∃ u, G1 a = some u) ∨ H a = none
theorem WalkOk.ext {K : Kw} {J : It} {ds : List D} {G G' : Hp} {α α' : Al} (h : WalkOk K J ds G α) (x : Ext G α G' α') : WalkOk K J ds G' α' := fun F ρ G1 α1 σ H w y => h F ρ G1 α1 σ H w (x.trans y)
def PWk (X : Cx) (F : Frm) (σ : L2.St) (Rr : It → Hp → Prop) : PP (List D) := fun ds ρ G α => ∀ J H' G' α', W (kw X) F ρ G' α' σ H' → Ext G α G' α' → WalkOk (kw X) J ds G' α' → Rr J H'
theorem PWk.anti {X : Cx} {F : Frm} {σ : L2.St} {Rr : It → Hp → Prop} : Anti (PWk X F σ Rr) := fun b ρ G α G' α' x h J H1 G1 α1 w y r => h J H1 G1 α1 w (x.trans y) r
def trI (X : Cx) (F : Frm) (Wx : WX) (m : M (List D)) : TI := fun σ H Rr => ∃ ρ G α, W (kw X) F ρ G α σ H ∧ okR (PWk X F σ Rr) (PZ X F Wx σ) G α (m ρ)
abbrev PID (X : Cx) (F : Frm) (Wx : WX) (tg iter : Expr) (m : M (List D)) : Prop := PI X tg iter (trI X F Wx m)
section
variable {X : Cx} {F : Frm} {Wx : WX} {e a b c tg iter : Expr} {es : List Expr} {pos p : Pos} {ma mb : M D} {sts : List Stmt}
theorem PI.imp' {t t' : TI} (h : PI X tg iter t) (i : ∀ σ H Rr, t' σ H Rr → t σ H Rr) : PI X tg iter t' := ⟨fun pins s σ H Rr I q => h.run pins s σ H Rr I (i σ H Rr q)⟩

/-! ## for -/
def forL (t : Tg) (b : SM) : List D → SM
  | [] => sNext
  | d :: ds => fun ρ => match t.set d ρ with
    | none => .no
    | some ρ1 => match b ρ1 with
      | .nx ρ2 => forL t b ds ρ2
      | .ct ρ2 => forL t b ds ρ2
      | .bk ρ2 => .nx ρ2
      | r => r
theorem drop_at {ds : List D} {i : Nat} (h : i < ds.length) : ds.drop i = ds[i] :: ds.drop (i + 1) := List.drop_eq_getElem_cons h
theorem psd_for {t : Tg} {m : M (List D)} {b : SM} (hp : PassesOwn (model X.prog X.w) X.A X.env X.xe) (hc : X.calm = true) (hi : PID X F Wx tg iter m) (hg : PG X tg (t.g X.K)) (hb : PSsD X F Wx sts b)
    (hf : ∀ x, foldedSetIterable iter X.env x = pure x := by intro _; rfl) : PSD X F Wx (.For tg iter sts [] pos) (sBind m (forL t b)) :=
  PS.imp' (ps_for hp hc hi hg hb hf) fun Z σ H ⟨ρ, G, α, w, h⟩ => by
    have h : okR (fun ds ρ' G' α' => okS X F Wx Z G' α' (forL t b ds ρ')) (PZ X F Wx σ) G α (m ρ) := sBind_ok w h
    refine ⟨ρ, G, α, w, h.imp fun ds ρ1 q J H1 G1 α1 w1 x1 wk => ?_⟩
    have q := okS.ext x1 q
    refine ⟨fun i n σ' H' => ∃ ρ' G' α', W (kw X) F ρ' G' α' σ' H' ∧ Ext G1 α1 G' α' ∧ okS X F Wx Z G' α' (forL t b (ds.drop i) ρ') ∧ n + i = ds.length, ⟨ds.length, ρ1, G1, α1, w1, Ext.refl, by rw [List.drop_zero]; exact q, rfl⟩, fun i n σ' H' ⟨ρ', G', α', w', x', q', hn⟩ => ?_⟩
    obtain ⟨k1, k2, k3⟩ := wk F ρ' G' α' σ' H' w' x'
    by_cases hi : i < ds.length
    · refine .inr ⟨k1 i hi, _, fun σ2 H2 h => h, fun x H2 y => ?_⟩
      obtain ⟨G2, w2, x2, r2, _⟩ := k3 i _ x H2 (List.getElem?_eq_getElem hi) y
      rw [drop_at hi] at q'
      unfold forL at q'
      cases e : t.set ds[i] ρ' with
      | none => rw [e] at q'; exact q'.elim
      | some ρ3 =>
        rw [e] at q'
        refine Tg.ok (K := kw X) w2 t _ r2 e fun σ3 w3 _ => ⟨ρ3, G2, α', w3, ?_⟩
        have q' := okS.ext x2 q'
        dsimp only at q'
        cases eb : b ρ3 with
        | nx ρ4 =>
          rw [eb] at q'
          exact fun σ4 H4 G4 α4 w4 x4 => ⟨n - 1, by omega, ρ4, G4, α4, w4, x'.trans (x2.trans x4), okS.ext x4 q', by omega⟩
        | ct ρ4 =>
          rw [eb] at q'
          exact fun σ4 H4 G4 α4 w4 x4 => ⟨n - 1, by omega, ρ4, G4, α4, w4, x'.trans (x2.trans x4), okS.ext x4 q', by omega⟩
        | bk ρ4 => rw [eb] at q'; exact q'
        | rt s ρ4 => rw [eb] at q'; exact q'
        | ex y ρ4 => rw [eb] at q'; exact q'
        | no => rw [eb] at q'; exact q'.elim
    · refine .inl ⟨k2 i (Nat.le_of_not_lt hi), ?_⟩
      rw [List.drop_eq_nil_of_le (Nat.le_of_not_lt hi)] at q'
      exact q' σ' H' G' α' w' Ext.refl
/-! ## while -/
def whileL (c : M Bool) (b : SM) : Nat → SM
  | 0 => fun _ => .no
  | n + 1 => sBind c fun t => if t = true then (fun ρ => match b ρ with
      | .nx ρ2 => whileL c b n ρ2
      | .ct ρ2 => whileL c b n ρ2
      | .bk ρ2 => .nx ρ2
      | r => r) else sNext
def whileF (c : M Bool) (b : SM) (fu : E → Nat) : SM := fun ρ => whileL c b (fu ρ) ρ
theorem psd_while {mt : M Bool} {b : SM} (fu : E → Nat) (hp : PassesOwn (model X.prog X.w) X.A X.env X.xe) (hc : PDT X F Wx c mt) (hb : PSsD X F Wx sts b) : PSD X F Wx (.While c sts [] pos) (whileF mt b fu) :=
  PS.imp' (ps_while hp hc hb) fun Z σ H ⟨ρ, G, α, w, h⟩ => by
    refine ⟨fun n σ' H' => ∃ ρ' G' α', W (kw X) F ρ' G' α' σ' H' ∧ okS X F Wx Z G' α' (whileL mt b n ρ'), ⟨fu ρ, ρ, G, α, w, h⟩, fun n σ' H' ⟨ρ', G', α', w', q'⟩ => ?_⟩
    cases n with
    | zero => exact q'.elim
    | succ n =>
      unfold whileL at q'
      refine stepST w' q' fun t ρ1 H1 G1 α1 w1 x1 q1 => ?_
      cases t with
      | false => exact q1 σ' H1 G1 α1 w1 Ext.refl
      | true =>
        simp only [if_true] at q1 ⊢
        refine ⟨_, fun σ2 H2 h => h, ρ1, G1, α1, w1, ?_⟩
        cases eb : b ρ1 with
        | nx ρ4 =>
          rw [eb] at q1
          exact fun σ4 H4 G4 α4 w4 x4 => ⟨n, Nat.lt_succ_self _, ρ4, G4, α4, w4, okS.ext x4 q1⟩
        | ct ρ4 =>
          rw [eb] at q1
          exact fun σ4 H4 G4 α4 w4 x4 => ⟨n, Nat.lt_succ_self _, ρ4, G4, α4, w4, okS.ext x4 q1⟩
        | bk ρ4 => rw [eb] at q1; exact q1
        | rt s ρ4 => rw [eb] at q1; exact q1
        | ex y ρ4 => rw [eb] at q1; exact q1
        | no => rw [eb] at q1; exact q1.elim
end
end BZ
end
section
set_option Elab.async false
set_option linter.all false
set_option maxRecDepth 100000
set_option maxHeartbeats 1000000
namespace BZ
open PySem PySem.Spec PyProof.Rows L2

/-! ## blocks: the slots lent -/
def lend : S → S
  | .own d => .lent d
  | s => s
def wipeS (sl : List S) : List Nat → List S
  | [] => sl
  | i :: r => (wipeS sl r).set i .un
structure Lnd (K : Kw) (sl : List S) (σ : L2.St) (H G : Hp) (α : Al) : Prop where
  len : σ.length = sl.length
  slot : ∀ (i : Nat) (d : D), sl[i]? = some (.val d) → ∃ v, σ[i]? = some (some v) ∧ Rep K G α d v
  own : ∀ (i : Nat) (d : D), sl[i]? ≠ some (.own d)
  lent : ∀ (i : Nat) (d : D), sl[i]? = some (.lent d) → ∃ a, σ[i]? = some (some (.ref a)) ∧ Own K H G α a d ∧ ∀ n, α n ≠ some a
section
variable {K : Kw} {F : Frm} {ρ ρ' : E} {G H G' H' : Hp} {α α' : Al} {σ σ' : L2.St} {sl : List S}
theorem lend_val {s : S} {d : D} (h : lend s = .val d) : s = .val d := by cases s <;> simp_all [lend]
theorem lend_lent {s : S} {d : D} (h : lend s = .lent d) : s = .own d ∨ s = .lent d := by cases s <;> simp_all [lend]
theorem lend_own {s : S} {d : D} (h : lend s = .own d) : False := by cases s <;> simp_all [lend]
theorem lend_get {sl : List S} {i : Nat} {s : S} (h : (sl.map lend)[i]? = some s) : ∃ s', sl[i]? = some s' ∧ lend s' = s := by
  rw [List.getElem?_map] at h
  cases e : sl[i]? with
  | none => rw [e] at h; cases h
  | some s' => rw [e] at h; cases h; exact ⟨s', rfl, rfl⟩
theorem W.lnd (w : W K F ρ G α σ H) : Lnd K (ρ.sl.map lend) σ H G α := by
  refine ⟨by simp [w.len], fun i d e => ?_, fun i d e => ?_, fun i d e => ?_⟩
  · obtain ⟨s, e1, e2⟩ := lend_get e
    rw [lend_val e2] at e1
    exact w.slot i d e1
  · obtain ⟨s, e1, e2⟩ := lend_get e
    exact lend_own e2
  · obtain ⟨s, e1, e2⟩ := lend_get e
    rcases lend_lent e2 with rfl | rfl
    · obtain ⟨a, h1, h2, h3, h4, h5⟩ := w.own i d e1
      exact ⟨a, h1, h2, h5⟩
    · obtain ⟨a, h1, h2, h3⟩ := w.lent i d e1
      obtain ⟨o, ho, ht⟩ := own_notTbl h2
      refine ⟨a, h1, h2.keep Ext.refl (by rw [ho]; exact w.keep a o ho h3 ht), fun n z => ?_⟩
      by_cases hn : n < F.n0
      · exact h3 n hn (by rw [← w.old n hn]; exact z)
      · obtain ⟨b, k1, k2, k3, k4⟩ := w.cell n _ (List.getElem?_eq_getElem (w.dom n a z))
        rw [z] at k1; cases k1
        rcases k4 with k4 | k4
        · exact hn k4
        · rw [k4] at ho; cases ho
theorem Lnd.drop (l : Lnd K sl σ H G α) (i : Nat) (v : Option V) : Lnd K (sl.set i .un) (σ.set i v) H G α := by
  have ne : ∀ {j : Nat} {s : S}, (sl.set i .un)[j]? = some s → s ≠ .un → j ≠ i ∧ sl[j]? = some s := fun {j s} e n => by
    by_cases z : j = i
    · subst z
      by_cases hl : j < sl.length
      · rw [List.getElem?_set_self hl] at e; cases e; exact absurd rfl n
      · rw [List.getElem?_eq_none (by simpa using hl)] at e; cases e
    · rw [List.getElem?_set_ne (Ne.symm z)] at e; exact ⟨z, e⟩
  refine ⟨by simp [l.len], fun j d e => ?_, fun j d e => ?_, fun j d e => ?_⟩
  · obtain ⟨z, e⟩ := ne e (fun q => by cases q)
    obtain ⟨v', h1, h2⟩ := l.slot j d e
    exact ⟨v', by rw [List.getElem?_set_ne (Ne.symm z)]; exact h1, h2⟩
  · obtain ⟨z, e⟩ := ne e (fun q => by cases q)
    exact l.own j d e
  · obtain ⟨z, e⟩ := ne e (fun q => by cases q)
    obtain ⟨a, h1, h2⟩ := l.lent j d e
    exact ⟨a, by rw [List.getElem?_set_ne (Ne.symm z)]; exact h1, h2⟩
theorem Lnd.wipe (l : Lnd K sl σ H G α) : ∀ (vs : List Nat), Lnd K (wipeS sl vs) (L2.wipe σ vs) H G α
  | [] => l
  | i :: r => by
    rw [wipe_cons]
    exact (l.wipe r).drop i none
/-- the frame of a block -/
theorem W.blk (w : W K F ρ G α σ H) (l : Lnd K sl σ' H G α) : W K (fr0 F.T H G α ρ.st.length) ⟨sl, ρ.st⟩ G α σ' H :=
  ⟨w.sub, l.len, l.slot, fun i d e => (l.own i d e).elim, fun i d e => by
    obtain ⟨a, h1, h2, h3⟩ := l.lent i d e
    exact ⟨a, h1, h2, fun n _ => h3 n⟩, fun i j d d' a e => (l.own i d e).elim, fun n d e => by
    obtain ⟨a, h1, h2, h3, h4⟩ := w.cell n d e
    exact ⟨a, h1, h2, h3, .inl (List.getElem?_eq_some_iff.mp e).1⟩, w.dom, w.inj, fun _ _ => rfl, fun a o e _ _ => e, fun a o e => ⟨o, e⟩, fun a o e => .inl ⟨o, e⟩, Nat.le_refl _, w.tab⟩
/-- an object stands that is no cell -/
theorem W.stays (c : W K (fr0 F.T H G α ρ.st.length) ρ' G' α' σ' H') {a : Addr} {o : HO} (h : H a = some o) (n : ∀ n, α n ≠ some a) (t : isTbl o = false) : H' a = some o := c.keep a o h (fun m _ => n m) t
theorem Lnd.keep (l : Lnd K sl σ H G α) (c : W K (fr0 F.T H G α ρ.st.length) ρ' G' α' σ' H') (x : Ext G α G' α') (hd : ∀ n a, α n = some a → n < ρ.st.length) : Lnd K sl σ H' G' α' := by
  refine ⟨l.len, fun i d e => ?_, l.own, fun i d e => ?_⟩
  · obtain ⟨v, h1, h2⟩ := l.slot i d e
    exact ⟨v, h1, Rep.ext x _ _ h2⟩
  · obtain ⟨a, h1, h2, h3⟩ := l.lent i d e
    obtain ⟨o, ho, ht⟩ := own_notTbl h2
    refine ⟨a, h1, h2.keep x (by rw [c.stays ho h3 ht, ho]), fun n z => ?_⟩
    by_cases hn : n < ρ.st.length
    · have : α' n = α n := c.old n hn
      rw [this] at z; exact h3 n z
    · obtain ⟨b, k1, k2, k3, k4⟩ := c.cell n _ (List.getElem?_eq_getElem (c.dom n a z))
      rw [z] at k1; cases k1
      rcases k4 with k4 | k4
      · exact hn k4
      · have k4 : H a = none := k4
        rw [ho] at k4; cases k4
theorem Free.back (w : W K F ρ G α σ H) (c : W K (fr0 F.T H G α ρ.st.length) ρ' G' α' σ' H') {a : Addr} {o : HO} (f : Free ρ G α σ a) (h : H a = some o) {st : List D} : Free { ρ with st := st } G' α' σ a := by
  refine ⟨?_, fun n z => ?_, f.ow⟩
  · cases q : G' a with
    | none => rfl
    | some u =>
      rcases c.gnew a u q with ⟨u', z⟩ | z
      · have z : G a = some u' := z
        rw [f.g] at z; cases z
      · have z : H a = none := z
        rw [h] at z; cases z
  · by_cases hn : n < ρ.st.length
    · have : α' n = α n := c.old n hn
      rw [this] at z; exact f.cl n z
    · obtain ⟨b, k1, k2, k3, k4⟩ := c.cell n _ (List.getElem?_eq_getElem (c.dom n a z))
      rw [z] at k1; cases k1
      rcases k4 with k4 | k4
      · exact hn k4
      · have k4 : H a = none := k4
        rw [h] at k4; cases k4
/-- an object that is nobody's is written -/
theorem W.writeF (w : W K F ρ G α σ H) {a : Addr} {o u0 : HO} (f : Free ρ G α σ a) (h0 : F.H0 a = none) (hu : H a = some u0) (nt : isTbl u0 = false) : W K F ρ G α σ (upd H a o) := by
  have nG : ∀ b u, G b = some u → b ≠ a := fun b u q z => by rw [z, f.g] at q; cases q
  refine ⟨fun b u q => ?_, w.len, w.slot, fun j d1 q => ?_, w.lent, w.sep, fun m d1 q => ?_, w.dom, w.inj, w.old, fun b u q1 q2 q3 => ?_, fun b u q => ?_, w.gnew, w.n0, fun P hP => (let ⟨⟨ps, e1, e2⟩, e3⟩ := w.tab P hP; ⟨⟨ps, (upd_ne fun z => by rw [z, hu] at e1; cases e1; cases nt).trans e1, e2⟩, e3⟩)⟩
  · rw [upd_ne (nG b u q)]; exact w.sub _ _ q
  · obtain ⟨b, k1, k2, k3⟩ := w.own j d1 q
    exact ⟨b, k1, k2.keep Ext.refl (upd_ne fun y => f.ow j d1 q (by rw [← y]; exact k1)), k3⟩
  · obtain ⟨b, k1, k2, k3⟩ := w.cell m d1 q
    exact ⟨b, k1, k2.keep Ext.refl (upd_ne fun y => f.cl m (by rw [← y]; exact k1)), k3⟩
  · rw [upd_ne (fun z => by rw [z, h0] at q1; cases q1)]; exact w.keep b u q1 q2 q3
  · obtain ⟨u', y⟩ := w.there b u q
    by_cases z : b = a
    · rw [z, upd_same]; exact ⟨_, rfl⟩
    · rw [upd_ne z]; exact ⟨u', y⟩
theorem Lnd.write (l : Lnd K sl σ H G α) {a : Addr} {o : HO} (n : ∀ (i : Nat) (d : D), sl[i]? = some (.lent d) → σ[i]? ≠ some (some (.ref a))) : Lnd K sl σ (upd H a o) G α := by
  refine ⟨l.len, l.slot, l.own, fun i d e => ?_⟩
  obtain ⟨b, h1, h2, h3⟩ := l.lent i d e
  exact ⟨b, h1, h2.keep Ext.refl (upd_ne fun y => n i d e (by rw [← y]; exact h1)), h3⟩
end
theorem wipe_len : ∀ {vs : List Nat} {σ : L2.St}, (wipe σ vs).length = σ.length
  | [], σ => rfl
  | i :: r, σ => by rw [wipe_cons, List.length_set, wipe_len]
theorem wipe_at : ∀ {vs : List Nat} {σ : L2.St} {j : Nat}, j < σ.length → (wipe σ vs)[j]? = if j ∈ vs then some none else σ[j]?
  | [], σ, j, _ => by simp [show wipe σ [] = σ from rfl]
  | i :: r, σ, j, h => by
    rw [wipe_cons]
    by_cases e : i = j
    · subst e
      rw [List.getElem?_set_self (by rw [wipe_len]; exact h)]; simp
    · rw [List.getElem?_set_ne e, wipe_at h]
      have : (j ∈ i :: r) ↔ j ∈ r := by
        rw [List.mem_cons]
        exact ⟨fun h => h.resolve_left (fun z => e z.symm), .inr⟩
      simp [this]
theorem wipe_wipe {vs : List Nat} {σ : L2.St} : wipe (wipe σ vs) vs = wipe σ vs := by
  refine List.ext_getElem? fun j => ?_
  by_cases h : j < σ.length
  · rw [wipe_at (by rw [wipe_len]; exact h), wipe_at h]
    split <;> rfl
  · have h1 : (wipe (wipe σ vs) vs).length ≤ j := by rw [wipe_len, wipe_len]; omega
    have h2 : (wipe σ vs).length ≤ j := by rw [wipe_len]; omega
    rw [List.getElem?_eq_none h1, List.getElem?_eq_none h2]
abbrev WF : WX := fun _ _ _ _ => False
/-! ## list comprehensions -/
def E.inB (ρ : E) (vs : List Nat) : E := ⟨wipeS (ρ.sl.map lend) vs, ρ.st⟩
/-- one turn of a block: none where the tests fail -/
def turn (t : Tg) (vs : List Nat) (c : M Bool) (e : M D) (d : D) : M (Option D) := fun ρ => match t.set d (ρ.inB vs) with
  | none => .no
  | some ρ1 => match c ρ1 with
    | .ok true ρ2 => (match e ρ2 with
      | .ok y ρ3 => if y.plain then .ok (some y) { ρ with st := ρ3.st } else .no
      | _ => .no)
    | .ok false ρ2 => .ok none { ρ with st := ρ2.st }
    | _ => .no
def compL (f : D → M (Option D)) : List D → M (List D)
  | [] => ret []
  | d :: ds => fun ρ => match f d ρ with
    | .ok (some y) ρ1 => (match compL f ds ρ1 with
      | .ok ys ρ2 => .ok (y :: ys) ρ2
      | r => r)
    | .ok none ρ1 => compL f ds ρ1
    | .ex x ρ1 => .ex x ρ1
    | .no => .no
theorem compL_cons {f : D → M (Option D)} {d : D} {ds : List D} {ρ : E} : compL f (d :: ds) ρ = match f d ρ with
    | .ok (some y) ρ1 => (match compL f ds ρ1 with
      | .ok ys ρ2 => .ok (y :: ys) ρ2
      | r => r)
    | .ok none ρ1 => compL f ds ρ1
    | .ex x ρ1 => .ex x ρ1
    | .no => .no := rfl
def compS (f : D → M (Option D)) (ds : List D) : M S := fun ρ => if ds.length ≤ 16777216 then (match compL f ds ρ with
  | .ok ys ρ1 => .ok (.own (.lst ys)) ρ1
  | _ => .no) else .no
section
variable {X : Cx} {F : Frm} {Wx : WX} {e a b c tg iter elt : Expr} {es ifs : List Expr} {pos p : Pos} {ma mb : M D}
abbrev PTsD (X : Cx) (F : Frm) (Wx : WX) (ifs : List Expr) (m : M Bool) : Prop := PTs X ifs (trT X F Wx m)
theorem PTs.imp' {t t' : TT} (h : PTs X ifs t) (i : ∀ σ H Q, t' σ H Q → t σ H Q) : PTs X ifs t' := ⟨fun pins s σ H Q I q => h.run pins s σ H Q I (i σ H Q q)⟩
theorem pts0 : PTsD X F Wx [] (ret true) := PTs.imp' pts_nil fun σ H Q ⟨ρ, G, α, w, h⟩ => h H G α w Ext.refl
theorem pts1 {m : M Bool} (h : PDT X F Wx c m) : PTsD X F Wx [c] m := pts_one h
abbrev bT (X : Cx) (T : Addr → Prop) (m : M Bool) : TT := fun σ H Q => ∃ (H0 G0 : Hp) (n0 : Nat) (α0 : Al), trT X ⟨H0, G0, n0, α0, T⟩ WF m σ H Q
abbrev bE (X : Cx) (T : Addr → Prop) (m : M D) : TE := fun σ H Q => ∃ (H0 G0 : Hp) (n0 : Nat) (α0 : Al), trE X ⟨H0, G0, n0, α0, T⟩ WF m σ H Q
/-- the premises of a comprehension -/
structure LcP (X : Cx) (F : Frm) (Wx : WX) (tg iter : Expr) (ifs : List Expr) (elt : Expr) (scope : Scope) (own : List (Str × Nat)) (t : Tg) (m : M (List D)) (mc : M Bool) (me : M D) : Prop where
  hc : X.calm = true
  hN : X.N.Nodup
  hi : PID X F Wx tg iter m
  ok : BlkOk X.N X.env.scope scope own
  hin : t.inn (own.map (·.2)) = true
  hg : ∀ (s : Shared) (H : Hp) (C : Addr) (cl : List (Str × Addr)) (fp : List Addr), PG (X.blk s H scope (compEnvC scope cl C X.env) fp) tg (t.g X.K)
  ht : ∀ (s : Shared) (H : Hp) (C : Addr) (cl : List (Str × Addr)) (fp : List Addr) (H0 G0 : Hp) (n0 : Nat) (α0 : Al), PTsD (X.blk s H scope (compEnvC scope cl C X.env) fp) ⟨H0, G0, n0, α0, F.T⟩ WF ifs mc
  he : ∀ (s : Shared) (H : Hp) (C : Addr) (cl : List (Str × Addr)) (fp : List Addr) (H0 G0 : Hp) (n0 : Nat) (α0 : Al), PD (X.blk s H scope (compEnvC scope cl C X.env) fp) ⟨H0, G0, n0, α0, F.T⟩ WF elt me
theorem LcP.tt {scope : Scope} {own : List (Str × Nat)} {t : Tg} {m : M (List D)} {mc : M Bool} {me : M D} (O : LcP X F Wx tg iter ifs elt scope own t m mc me) (s : Shared) (H : Hp) (C : Addr) (cl : List (Str × Addr)) (fp : List Addr) :
    PTs (X.blk s H scope (compEnvC scope cl C X.env) fp) ifs (bT X F.T mc) := ⟨fun pins s σ H Q I ⟨H0, G0, n0, α0, q⟩ => (O.ht _ _ _ _ _ H0 G0 n0 α0).run pins s σ H Q I q⟩
theorem LcP.te {scope : Scope} {own : List (Str × Nat)} {t : Tg} {m : M (List D)} {mc : M Bool} {me : M D} (O : LcP X F Wx tg iter ifs elt scope own t m mc me) (s : Shared) (H : Hp) (C : Addr) (cl : List (Str × Addr)) (fp : List Addr) :
    PE (X.blk s H scope (compEnvC scope cl C X.env) fp) elt (bE X F.T me) := ⟨fun pins s σ H Q I ⟨H0, G0, n0, α0, q⟩ => (O.he _ _ _ _ _ H0 G0 n0 α0).run pins s σ H Q I q⟩
theorem lc_tr {vs : List Nat} {t : Tg} {m : M (List D)} {mc : M Bool} {me : M D} {σ : L2.St} {H : Hp} {Q : VK} (hin : t.inn vs = true) (q : trF X F Wx (m >>= compS (turn t vs mc me)) σ H Q) : tLc (trI X F Wx m) (t.g X.K) (bT X F.T mc) (bE X F.T me) vs σ H Q := by
  obtain ⟨ρ, G, α, w, h⟩ := q
  refine ⟨ρ, G, α, w, h.bind.imp fun ds ρ1 q J H1 G1 α1 w1 x1 wk Dd nD => ?_⟩
  have q := okR.ext PF.anti PZ.anti x1 q
  unfold compS at q
  by_cases hds : ds.length ≤ 16777216
  case neg => rw [if_neg hds] at q; exact q.elim
  case pos =>
  rw [if_pos hds] at q
  cases ec : compL (turn t vs mc me) ds ρ1 with
  | ex _ _ => rw [ec] at q; exact q.elim
  | no => rw [ec] at q; exact q.elim
  | ok ys ρe =>
  rw [ec] at q
  obtain ⟨w1', f1, h01⟩ := w1.alloc0 (o := .lst []) nD
  refine ⟨fun i n H' => ∃ (ρ' : E) (G' : Hp) (α' : Al) (acc : List V) (as rest : List D), W (kw X) F ρ' G' α' σ H' ∧ Ext G1 α1 G' α' ∧ Free ρ' G' α' σ Dd ∧ H' Dd = some (.lst acc) ∧ RepL (kw X) G' α' as acc ∧ as.length ≤ i ∧
    (∀ (j : Nat) (d : D), (ρ'.sl.map lend)[j]? = some (S.lent d) → σ[j]? ≠ some (some (V.ref Dd))) ∧ compL (turn t vs mc me) (ds.drop i) ρ' = .ok rest ρe ∧ ys = as ++ rest ∧ n + i = ds.length, ⟨ds.length, ρ1, G1, α1, [], [], ys, w1', Ext.refl, f1, upd_same, RepL.nil, Nat.zero_le _, fun j d e z => ?_, by rw [List.drop_zero]; exact ec, rfl, rfl⟩, fun i n H' ⟨ρ', G', α', acc, as, rest, w', x', f', hD, ra, la, nl, ecL, ey, hn⟩ => ?_⟩
  · obtain ⟨a, h1, h2, _⟩ := w1.lnd.lent j d e
    rw [z] at h1; cases h1
    obtain ⟨o, ho⟩ := h2.some
    rw [nD] at ho; cases ho
  obtain ⟨k1, k2, k3⟩ := wk F ρ' G' α' σ H' w' x'
  by_cases hi : i < ds.length
  · refine .inr ⟨k1 i hi, _, fun H2 h => h, fun x H2 y => ?_⟩
    obtain ⟨G2, w2, x2, r2, sb, sg⟩ := k3 i _ x H2 (List.getElem?_eq_getElem hi) y
    rw [drop_at hi] at ecL
    rw [compL_cons] at ecL
    have hD2 : H2 Dd = some (.lst acc) := sb _ _ hD
    have l2 := w2.lnd.wipe vs
    have wb := w2.blk l2
    have g2 : G2 Dd = none := by
      cases q : G2 Dd with
      | none => rfl
      | some u =>
        rcases sg _ _ q with ⟨u', z⟩ | z
        · rw [f'.g] at z; cases z
        · rw [hD] at z; cases z
    have f2 : Free ρ' G2 α' σ Dd := ⟨g2, f'.cl, f'.ow⟩
    cases e1 : t.set ds[i] (ρ'.inB vs) with
    | none =>
      have eT : turn t vs mc me ds[i] ρ' = .no := by unfold turn; rw [e1]
      rw [eT] at ecL; cases ecL
    | some ρ2 =>
    refine Tg.ok (K := kw X) wb t _ r2 e1 fun σ2 wb2 hw => ⟨?_, ?_⟩
    · rw [hw vs hin, wipe_wipe]
    refine ⟨_, _, _, _, ρ2, G2, α', wb2, ?_⟩
    cases e2 : mc ρ2 with
    | ex _ _ =>
      have eT : turn t vs mc me ds[i] ρ' = .no := by unfold turn; rw [e1]; dsimp only; rw [e2]
      rw [eT] at ecL; cases ecL
    | no =>
      have eT : turn t vs mc me ds[i] ρ' = .no := by unfold turn; rw [e1]; dsimp only; rw [e2]
      rw [eT] at ecL; cases ecL
    | ok k ρ3 =>
    cases k with
    | false =>
      have eT : turn t vs mc me ds[i] ρ' = .ok none { ρ' with st := ρ3.st } := by unfold turn; rw [e1]; dsimp only; rw [e2]
      rw [eT] at ecL
      dsimp only at ecL
      refine fun H3 G3 α3 w3 x3 => ?_
      have w4 := W.back w2 w3.forget x3
      exact ⟨n - 1, by omega, { ρ' with st := ρ3.st }, G3, α3, acc, as, rest, w4, x'.trans (x2.trans x3), Free.back w2 w3 f2 hD2, w3.stays hD2 f2.cl rfl, RepL.ext (x2.trans x3) _ _ ra, by omega, nl, ecL, ey, by omega⟩
    | true =>
      refine fun H3 G3 α3 w3 x3 => ⟨_, _, _, _, ρ3, G3, α3, w3, ?_⟩
      cases e3 : me ρ3 with
      | ex _ _ =>
        have eT : turn t vs mc me ds[i] ρ' = .no := by unfold turn; rw [e1]; dsimp only; rw [e2]; dsimp only; rw [e3]
        rw [eT] at ecL; cases ecL
      | no =>
        have eT : turn t vs mc me ds[i] ρ' = .no := by unfold turn; rw [e1]; dsimp only; rw [e2]; dsimp only; rw [e3]
        rw [eT] at ecL; cases ecL
      | ok d ρ4 =>
      by_cases hp : d.plain = true
      case neg =>
        have eT : turn t vs mc me ds[i] ρ' = .no := by unfold turn; rw [e1]; dsimp only; rw [e2]; dsimp only; rw [e3]; dsimp only; rw [if_neg hp]
        rw [eT] at ecL; cases ecL
      case pos =>
      have eT : turn t vs mc me ds[i] ρ' = .ok (some d) { ρ' with st := ρ4.st } := by unfold turn; rw [e1]; dsimp only; rw [e2]; dsimp only; rw [e3]; dsimp only; rw [if_pos hp]
      rw [eT] at ecL
      dsimp only at ecL
      intro v H4 G4 α4 w4 x4 r4
      have w5 := W.back w2 w4.forget (x3.trans x4)
      have f5 := Free.back w2 w4 f2 hD2 (st := ρ4.st)
      have hD4 := w4.stays hD2 f2.cl rfl
      cases e5 : compL (turn t vs mc me) (ds.drop (i + 1)) { ρ' with st := ρ4.st } with
      | ex _ _ => rw [show compL (turn t vs mc me) (ds.drop (i + 1)) ⟨ρ'.sl, ρ4.st⟩ = _ from e5] at ecL; cases ecL
      | no => rw [show compL (turn t vs mc me) (ds.drop (i + 1)) ⟨ρ'.sl, ρ4.st⟩ = _ from e5] at ecL; cases ecL
      | ok ys2 ρ6 =>
      rw [show compL (turn t vs mc me) (ds.drop (i + 1)) ⟨ρ'.sl, ρ4.st⟩ = _ from e5] at ecL
      cases ecL
      have x5 := x2.trans (x3.trans x4)
      refine ⟨acc, hD4, ?_, n - 1, by omega, { ρ' with st := ρ4.st }, G4, α4, acc ++ [v], as ++ [d], ys2, w5.writeF f5 h01 hD4 rfl, x'.trans x5, f5, upd_same, RepL.append (RepL.ext x5 _ _ ra) (RepL.cons (r4.plain hp) RepL.nil), by simp; omega, nl, e5, by rw [ey]; simp, by omega⟩
      have : acc.length = as.length := ra.length
      rw [this]
      exact Nat.lt_of_le_of_lt la (Nat.lt_of_lt_of_le hi hds)
  · rw [List.drop_eq_nil_of_le (Nat.le_of_not_lt hi)] at ecL
    cases ecL
    rw [List.append_nil] at ey
    subst ey
    exact .inl ⟨k2 i (Nat.le_of_not_lt hi), q _ H' G' α' w' x' ⟨Dd, rfl, ⟨acc, hD, ra⟩, f', h01⟩⟩
theorem pf_lc {scope : Scope} {own : List (Str × Nat)} {t : Tg} {m : M (List D)} {mc : M Bool} {me : M D} (O : LcP X F Wx tg iter ifs elt scope own t m mc me) (hf : ∀ x, foldedSetIterable iter X.env x = pure x := by intro _; rfl) :
    PDF X F Wx (.ListComp elt [⟨tg, iter, ifs, 0⟩] scope pos) (m >>= compS (turn t (own.map (·.2)) mc me)) :=
  PE.imp' (pe_lc O.hc O.hN O.hi O.ok O.hg O.tt O.te hf) fun σ H Q q => lc_tr O.hin q
/-- name = [..] -/
theorem ps_lcF {i : Nat} {y : Str} {py spos : Pos} {scope : Scope} {own : List (Str × Nat)} {t : Tg} {m : M (List D)} {mc : M Bool} {me : M D} (O : LcP X F Wx tg iter ifs elt scope own t m mc me) (hy : X.N[i]? = some y) (hyl : X.env.scope.names.lookup y = some .local)
    (hsw : swapsWith (.ListComp elt [⟨tg, iter, ifs, 0⟩] scope pos) (some (.Name y py)) spos.line X.env = pure true) (hf : ∀ x, foldedSetIterable iter X.env x = pure x := by intro _; rfl) :
    PS X (.Assign [.Name y py] (.ListComp elt [⟨tg, iter, ifs, 0⟩] scope pos) spos) (tAsg (trF X F Wx (m >>= compS (turn t (own.map (·.2)) mc me))) (gName i)) :=
  PS.imp' (ps_setLc O.hc O.hN hy hyl hsw O.hi O.ok O.hg O.tt O.te hf) fun Z σ H q => lc_tr O.hin q
theorem ps_lc {i : Nat} {y : Str} {py spos : Pos} {scope : Scope} {own : List (Str × Nat)} {t : Tg} {m : M (List D)} {mc : M Bool} {me : M D} (O : LcP X F Wx tg iter ifs elt scope own t m mc me) (hy : X.N[i]? = some y) (hyl : X.env.scope.names.lookup y = some .local)
    (hsw : swapsWith (.ListComp elt [⟨tg, iter, ifs, 0⟩] scope pos) (some (.Name y py)) spos.line X.env = pure true) (hf : ∀ x, foldedSetIterable iter X.env x = pure x := by intro _; rfl) :
    PS X (.Assign [.Name y py] (.ListComp elt [⟨tg, iter, ifs, 0⟩] scope pos) spos) (tAsg (trE X F Wx (do let s ← (m >>= compS (turn t (own.map (·.2)) mc me)); unS s)) (gName i)) :=
  PS.imp' (ps_lcF O hy hyl hsw hf) fun Z σ H q => unS_tr q
end
end BZ
end
section
set_option Elab.async false
set_option linter.all false
set_option maxRecDepth 100000
set_option maxHeartbeats 2000000
namespace BZ
open PySem PySem.Spec PyProof.Rows L2 GxR

/-! ## generators are never lost -/
theorem runs_gens {M : Model} {Γ : PySem.Ctx} {p : Pos} {t : Sem Fin} {fs : List Frame} {s s' : Shared} {e : End} (h : Runs M Γ p t fs s e s') : s.gens.size ≤ s'.gens.size := by
  induction h <;> (try simp only [Shared.setGen, Array.size_push, Array.size_setIfInBounds, Array.size_set!] at *) <;> omega
theorem wakes_gens {M : Model} {Γ : PySem.Ctx} {p : Pos} {g : Nat} {r : Resume} {s s' : Shared} {res : GenResult} (h : Wakes M Γ p g r s res s') : s.gens.size ≤ s'.gens.size := by
  have sg : ∀ (s : Shared) (x : GenState), (s.setGen g x).gens.size = s.gens.size := fun s x => by simp [Shared.setGen]
  unfold Wakes at h
  split at h
  · exact h.elim
  · split at h
    · obtain ⟨e₁, s₁, hr, _, _, rfl⟩ := h; have := runs_gens hr; rw [sg] at this; rw [sg]; exact this
    · rw [h.2]; exact Nat.le_refl _
    · rw [h.2, sg]; exact Nat.le_refl _
  · obtain ⟨e₁, s₁, hr, _, _, rfl⟩ := h; have := runs_gens hr; rw [sg] at this; rw [sg]; exact this
  · rw [h.2]; exact Nat.le_refl _
  · rw [h.2]; exact Nat.le_refl _
theorem wp_gens {α : Type} (M : Model) (Γ : PySem.Ctx) (n : Nat) (t : Sem α) : ∀ (Q : α → Pos → Shared → Prop) (E : Value → Pos → Shared → Prop) (p : Pos) (s : Shared), n ≤ s.gens.size → Sem.wp M Γ t Q E p s →
    Sem.wp M Γ t (fun a p' s' => n ≤ s'.gens.size ∧ Q a p' s') (fun e p' s' => n ≤ s'.gens.size ∧ E e p' s') p s := by
  induction t with
  | pure a => intro Q E p s hn h; exact ⟨hn, h⟩
  | raise e => intro Q E p s hn h; exact ⟨hn, h⟩
  | unsupported _ => intro Q E p s _ h; exact h
  | finish _ => intro Q E p s _ h; exact h
  | rule _ k ih => intro Q E p s hn h; exact ih () Q E p s hn h
  | «at» p' k ih => intro Q E p s hn h; exact ih () Q E p' s hn h
  | load a _ k ih => intro Q E p s hn h; obtain ⟨o, ho, h⟩ := h; exact ⟨o, ho, ih o Q E p s hn h⟩
  | update a _ f k ih => intro Q E p s hn h; exact ⟨h.1, ih () Q E p _ hn h.2⟩
  | loadIfAlive a k ih => intro Q E p s hn h; exact ih _ Q E p s hn h
  | point _ k ih => intro Q E p s hn h; exact ih () Q E p s hn h
  | register _ _ => intro Q E p s _ h; exact h
  | alloc o k ih => intro Q E p s hn h; exact ih _ Q E p _ hn h
  | fresh k ih => intro Q E p s hn h; exact ih _ Q E p _ hn h
  | ask k ih => intro Q E p s hn h; exact ih _ Q E p s hn h
  | choose src m k ih => intro Q E p s hn h; exact ⟨h.1, ih _ Q E p _ hn h.2⟩
  | os q _ k ih => intro Q E p s hn h; exact ih _ Q E p _ hn h
  | call c hd _ _ k ih => intro Q E p s hn h; obtain ⟨r, s', hr, h⟩ := h; exact ⟨r, s', hr, ih r Q E p s' (Nat.le_trans hn (runs_gens hr)) h⟩
  | handled own k ih => intro Q E p s hn h; exact ih _ Q E p s hn h
  | genState g k ih => intro Q E p s hn h; obtain ⟨st, hs, h⟩ := h; exact ⟨st, hs, ih _ Q E p s hn h⟩
  | newGen c k ih => intro Q E p s hn h; exact ih _ Q E p _ (by simp only [Array.size_push]; omega) h
  | resume g r _ k ih => intro Q E p s hn h; obtain ⟨res, s', hw, h⟩ := h; exact ⟨res, s', hw, ih res Q E p s' (Nat.le_trans hn (wakes_gens hw)) h⟩
  | yield _ _ _ _ => intro Q E p s _ h; exact h
  | stack k ih => intro Q E p s hn h; exact ih _ Q E p s hn h
  | fork _ _ => intro Q E p s _ h; exact h
  | thread k ih => intro Q E p s hn h; exact ih _ Q E p s hn h
  | await _ _ _ _ _ => intro Q E p s _ h; exact h
theorem wpAny_with_gens {α : Type} {M : Model} {A : Around} {s : Shared} {t : Sem α} {Q : α → Shared → Prop} {E : Value → Shared → Prop} {n : Nat} (hn : n ≤ s.gens.size)
    (h : wpAny M A t (fun a s' => n ≤ s'.gens.size → Q a s') (fun e s' => n ≤ s'.gens.size → E e s') s) : wpAny M A t Q E s :=
  wpAny_mono (fun Γ p hΓ => wp_gens M Γ n t _ _ p s hn (h Γ p hΓ) : wpAny M A t (fun a s' => n ≤ s'.gens.size ∧ (n ≤ s'.gens.size → Q a s')) (fun e s' => n ≤ s'.gens.size ∧ (n ≤ s'.gens.size → E e s')) s) (fun _ _ x => x.2 x.1) (fun _ _ x => x.2 x.1)

/-! ## the frame of a generator expression -/
abbrev gcx (X : Cx) (A : Around) (s : Shared) (H : Hp) (cenv : Env) (fp : List Addr) : Cx :=
  { X with A := A, s_0 := s, H_0 := H, env := cenv, outer := X.stack, stack := cenv :: X.stack, ex := fp, fn := fun _ => false, pn := [], xe := fun _ _ => False }
theorem cloFrom_look {cells : List (Str × Addr)} {names : List (Str × NameKind)} {y : Str} {c : Addr} (h : (cloFrom cells names []).lookup y = some c) : (y, NameKind.free) ∈ names ∧ c = (cells.lookup y).getD 0 := by
  rcases cloFrom_mem (PySem.mem_of_lookup h) with h | h
  · cases h
  · exact h
section
variable {X : Cx} {pins : List (Addr × Obj)} {σ : L2.St} {H : Hp} {s : Shared}
theorem Inv.setG {g' : Array GenState} (I : Inv X pins σ H s) (hg : AllBare g') : Inv X pins σ H { s with gens := g' } :=
  ⟨I.ok, I.os, hg, I.base, I.loc, I.cell, I.free, I.freeC, I.pin, I.hok, I.len⟩
theorem gen_start {scope : Scope} {own : List (Str × Nat)} {fp : List Addr} {code : Value} {it a : Addr} {h5 : Heap} {g' : Array GenState} {t' : Nat} {A' : Around} {gob : Obj} (I : Inv X pins σ H s) (ok : BlkOk X.N X.env.scope scope own) (hN : X.N.Nodup)
    (hcell : ∀ y ∈ scope.names, y.2 ≠ .cell) (hfp : ∀ b ∈ fp, FpOk X pins H b ∧ b < s.heap.objs.size)
    (kp : ∀ b o, s.heap.get? b = some o → h5.get? b = some o) (hns : h5.Ns s.heap.objs.size (fun y => if y = ".0" then some (.ref it) else none)) (hgo : h5.get? a = some gob) (hgd : ∀ v, gob.data ≠ .cell v) (ha : s.heap.objs.size < a) (hbare : AllBare g')
    (hA : A'.handled = none) (hF : A'.frames = some (genEnv scope (cloFrom X.env.cells scope.names []) s.heap.objs.size code builtinsNs X.env :: X.stack)) (hdot : (".0" : Str) ∉ X.N) :
    Inv (gcx X A' s H (genEnv scope (cloFrom X.env.cells scope.names []) s.heap.objs.size code builtinsNs X.env) fp) [(a, gob)] (wipe σ (own.map (·.2))) H { s with heap := h5, gens := g', toks := t' } := by
  have hfree : ∀ y ∈ scope.names, y.2 = .free → ∃ c, X.env.cells.lookup y.1 = some c := fun y hy e => by
    rcases ok.free y hy e with k | k
    · exact I.ok.has _ (.inl k)
    · exact I.ok.has _ (.inr k)
  have cm : ∀ {y c}, (cloFrom X.env.cells scope.names []).lookup y = some c → X.env.cells.lookup y = some c ∧ c < s.heap.objs.size := fun {y c} hm => by
    obtain ⟨h1, rfl⟩ := cloFrom_look hm
    obtain ⟨c, hc⟩ := hfree _ h1 rfl
    rw [hc]
    obtain ⟨w, z⟩ := I.cell _ _ hc
    exact ⟨rfl, z.lt⟩
  have look : ∀ {y}, scope.names.lookup y = some .free → ∃ c, (cloFrom X.env.cells scope.names []).lookup y = some c ∧ X.env.cells.lookup y = some c := fun {y} hl => by
    have hy : (y, NameKind.free) ∈ scope.names := PySem.mem_of_lookup hl
    obtain ⟨c', e'⟩ := mem_lookup (cloFrom_has (cells := X.env.cells) (acc := []) hy)
    exact ⟨c', e', (cm e').1⟩
  have cl : H s.heap.objs.size = none := I.hok.fresh (Nat.le_refl _)
  refine ⟨?_, rfl, hbare, ?_, ⟨_, hns, fun i y av e1 e2 e3 => ?_⟩, fun y c e => ?_, cl, fun y c e => ?_, fun p hp => ?_, I.hok.kept kp, by rw [wipe_length]; exact I.len⟩
  · refine ⟨I.ok.mod, ok.kind, I.ok.glob, rfl, Nat.le_refl _, fun y z c e1 e2 => I.ok.inj y z c (cm e1).1 (cm e2).1, fun y hy => ?_, fun y c z e => ?_, fun _ => hA, hF, .inr ⟨rfl, rfl⟩, fun b hb => ⟨?_, fun y c e z => ?_⟩, I.bs, Nat.le_trans I.ok.bsz I.sz, fun b o e hb => ?_, fun b hb z => ?_, I.stack, I.stkFree⟩
    · rcases hy with hy | hy
      · have hy : scope.names.lookup y = some .cell := hy
        exact (hcell _ (PySem.mem_of_lookup hy) rfl).elim
      · have hy : scope.names.lookup y = some .free := hy
        obtain ⟨c, h1, _⟩ := look hy
        exact ⟨c, h1⟩
    · cases z
    · exact Nat.ne_of_lt (hfp b hb).2
    · exact (hfp b hb).1.2.2.2.2.1 y c (cm e).1 z
    · rcases (hfp b hb).1.2.2.2.1 with z | z
      · exact I.ok.noex b o e z
      · exact absurd (Nat.lt_of_lt_of_le (Heap.lt_size e) (Nat.le_trans I.ok.bsz z)) (Nat.lt_irrefl _)
    · rcases List.mem_cons.mp (I.stkSub b z) with z | z
      · exact (hfp b hb).1.2.1 z
      · exact (hfp b hb).1.2.2.1 z
  · exact Un.kept kp
  · obtain ⟨e2, hne⟩ := wipe_some e2
    have hfr : scope.names.lookup y = some .free := by
      have no : ∀ k, scope.names.lookup y = some k → k = .local ∨ k = .cell → False := fun k e hh => by
        rcases ok.own _ (PySem.mem_of_lookup e) hh with e' | e'
        · obtain ⟨p, hp, hpy⟩ := List.mem_map.mp e'
          have e3 := ok.ix p hp
          have : p.1 = y := hpy
          rw [this] at e3
          exact hne (List.mem_map.mpr ⟨p, hp, nodup_ix hN e3 e1⟩)
        · exact e' (List.mem_of_getElem? e1)
      have e3 : Vis scope y := e3
      rcases e3 with e3 | e3 | e3
      · exact (no _ e3 (.inl rfl)).elim
      · exact (no _ e3 (.inr rfl)).elim
      · exact e3
    obtain ⟨m, hn, hl⟩ := I.loc
    have hvis : Vis X.env.scope y := (ok.free _ (PySem.mem_of_lookup hfr) rfl).elim (fun k => .inr (.inl k)) (fun k => .inr (.inr k))
    obtain ⟨w, r, q⟩ := hl i y av e1 e2 hvis
    refine ⟨w, r, .inr ⟨.inr hfr, ?_⟩⟩
    obtain ⟨c, h1, h2⟩ := look hfr
    rcases q with ⟨k, _⟩ | ⟨_, c', e', z⟩
    · have k : X.env.scope.names.lookup y = some .local := k
      rcases ok.free _ (PySem.mem_of_lookup hfr) rfl with k' | k' <;> rw [show X.env.scope.names.lookup y = _ from k'] at k <;> cases k
    · rw [h2] at e'; cases e'
      exact ⟨c, h1, z.keeps kp⟩
  · obtain ⟨w, z⟩ := I.cell y c (cm e).1
    exact ⟨w, z.keeps kp⟩
  · exact I.freeC y c (cm e).1
  · obtain rfl : p = (a, gob) := by simpa using hp
    refine ⟨hgo, I.hok.fresh (Nat.le_of_lt ha), Nat.ne_of_gt ha, fun z => ?_, hgd⟩
    rcases List.mem_cons.mp (I.stkSub a z) with z | z
    · have := I.lt
      rw [← z] at this
      exact Nat.lt_asymm this ha
    · exact absurd z (I.nofs (Nat.le_of_lt ha))
end
end BZ
end
section
set_option Elab.async false
set_option linter.all false
set_option maxRecDepth 100000
set_option maxHeartbeats 2000000
namespace BZ
open PySem PySem.Spec PyProof.Rows L2 GxR

/-- the state of a generator expression that is walked -/
def GI (Y : Cx) (pn : List (Addr × Obj)) (σw : L2.St) (fp : List Addr) (tn : Nat → Heap → Prop) (i : Nat) (H : Hp) (s : Shared) : Prop := Inv Y pn σw H s ∧ tn i s.heap ∧ ∀ b ∈ fp, H b = none
theorem GI.setG {Y : Cx} {pn : List (Addr × Obj)} {σw : L2.St} {fp : List Addr} {tn : Nat → Heap → Prop} {i : Nat} {H : Hp} {s : Shared} {g : Nat} {x : GenState} (h : GI Y pn σw fp tn i H s) (hb : x.bare = true) : GI Y pn σw fp tn i H (s.setGen g x) := by
  refine ⟨Inv.setG h.1 ?_, h.2⟩
  intro z hz
  rcases Array.mem_or_eq_of_mem_setIfInBounds hz with hz | rfl
  · exact h.1.bare _ hz
  · exact hb
section
variable {Y : Cx} {pn : List (Addr × Obj)} {σw : L2.St} {fp : List Addr} {tn : Nat → Heap → Prop} {J : It} {tg elt iter : Expr} {scope : Scope} {pos : Pos} {it : Addr} {n0 : Nat} {Pv : Nat → Hp → Prop} {Fz : Nat → Bool → Hp → Prop} {gt : TG} {te : TE} {A1 : Around} {vs : List Nat}
def genR (Y : Cx) (pn : List (Addr × Obj)) (σw : L2.St) (n0 : Nat) (Pv : Nat → Hp → Prop) : GenEnd := fun n s₀ r s₁ => r = .ok .next ∧ ∃ H1, Inv Y pn σw H1 s₁ ∧ Pv n0 H1
def genY (Y : Cx) (pn : List (Addr × Obj)) (σw : L2.St) (fp : List Addr) (tn : Nat → Heap → Prop) (n0 : Nat) (Pv : Nat → Hp → Prop) (Fz : Nat → Bool → Hp → Prop) : Protocol := fun m s₀ v s₁ kap => ∃ i b H1, m + i = n0 ∧ i < n0 ∧ v = .bool b ∧ GI Y pn σw fp tn (i + 1) H1 s₁ ∧ Fz i b H1 ∧
  ∀ s'', (∃ H', GI Y pn σw fp tn (i + 1) H' s'' ∧ Pv (i + 1) H') → kap (.send .none) s''
theorem seg_loopG (T : Turn Y.prog Y.w Y.K tg J fp it tn) (hc : Y.calm = true) (hA : Y.A = A1.over (.compLoop (.GeneratorExp elt [⟨tg, iter, [], 0⟩] scope pos) 0 (.ref it) .none Y.env) []) (hco : Y.env.scope.isCoroutine = false)
    (hex : ∀ b ∈ fp, b ∈ Y.ex ∧ ∀ p ∈ Y.pn ++ pn, p.1 ≠ b) (hg : PG Y tg gt) (he : PE Y elt te) (hxe : Y.xe = fun _ _ => False) (hw0 : ∀ σ2 : L2.St, wipe σ2 vs = σw → ∀ (j : Nat) (v : V), σw[j]? = some (some v) → σ2[j]? = some (some v)) (hwl : ∀ σ2 : L2.St, wipe σ2 vs = σw → σw.length = σ2.length)
    (hturn : ∀ i H, i < n0 → Pv i H → J.go i H ∧ ∀ x H', J.yld i H x H' → gt x σw H' fun σ2 H2 => wipe σ2 vs = σw ∧ te σ2 H2 fun y H3 => ∃ b, y = .bl b ∧ Fz i b H3) (hend : ∀ H, Pv n0 H → J.stop n0 H) :
    ∀ (k i : Nat) (s₀ s : Shared), n0 - i = k → i ≤ n0 → (∃ H, GI Y pn σw fp tn i H s ∧ Pv i H) →
      Seg (model Y.prog Y.w) A1 (genR Y pn σw n0 Pv) (genY Y pn σw fp tn n0 Pv Fz) (k + 1) s₀ (.compLoop (.GeneratorExp elt [⟨tg, iter, [], 0⟩] scope pos) 0 (.ref it) .none Y.env)
        ((model Y.prog Y.w).den (.compLoop (.GeneratorExp elt [⟨tg, iter, [], 0⟩] scope pos) 0 (.ref it) .none Y.env)) [] s := by
  have stat : ∀ {σ' : L2.St} {H' : Hp} {s' : Shared}, Inv Y pn σ' H' s' → (∀ b ∈ fp, H' b = none) → ∀ b ∈ fp, FpOk Y pn H' b := fun {σ' H' s'} I' hn b hb =>
    ⟨hn b hb, (I'.ok.exf b (hex b hb).1).1, I'.ok.exfs b (hex b hb).1, .inl (hex b hb).1, fun x c e => (I'.ok.exf b (hex b hb).1).2 x c e, fun p hp => (hex b hb).2 p hp⟩
  intro k
  induction k with
  | zero =>
    intro i s₀ s hk hi ⟨H, ⟨I, st, nf⟩, p⟩
    have hin : i = n0 := by omega
    subst hin
    show Seg _ A1 _ _ _ s₀ _ ((compTurn (.GeneratorExp elt [⟨tg, iter, [], 0⟩] scope pos) 0 (.ref it) .none Y.env).onRaise (leaving Y.env)) [] s
    rw [compTurn_gen, Sem.onRaise_eq_wrap]
    refine seg_bind_wrap (wpAny_standAt ?_)
    refine seg_bind_wrap ?_
    rw [← hA]
    refine thnF (T.done Y rfl rfl rfl hc i pn s _ H (fun _ _ => False) I (stat I nf) st (hend H p)) fun r s6 ⟨hr, I6⟩ => ?_
    subst hr
    exact seg_end (.ok .next) ⟨rfl, H, I6, p⟩
  | succ k ih =>
    intro i s₀ s hk hi ⟨H, ⟨I, st, nf⟩, p⟩
    have hlt : i < n0 := by omega
    obtain ⟨go, step⟩ := hturn i H hlt p
    show Seg _ A1 _ _ _ s₀ _ ((compTurn (.GeneratorExp elt [⟨tg, iter, [], 0⟩] scope pos) 0 (.ref it) .none Y.env).onRaise (leaving Y.env)) [] s
    rw [compTurn_gen, Sem.onRaise_eq_wrap]
    refine seg_bind_wrap (wpAny_standAt ?_)
    refine seg_bind_wrap ?_
    rw [← hA]
    refine thnF (T.item Y rfl rfl rfl hc i pn s _ H (fun _ _ => False) I (stat I nf) st go) fun r s6 ⟨u, hr, h6⟩ => ?_
    subst hr
    refine seg_bind_wrap ?_
    rw [← hA]
    refine thnF h6 fun _ s7 ⟨x, H7, I7, r7, y7, st7, n7⟩ => ?_
    have I7' := I7.pinned (stat I7 n7) (T.obj _ _ st7)
    refine seg_bind_wrap ?_
    rw [← hA]
    have pgr := hg.run _ s7 _ H7 x u _ I7' r7 (step x H7 y7)
    rw [hxe] at pgr
    refine thnF pgr fun _ s8 ⟨σ8, H8, I8, hw8, q8⟩ => ?_
    refine seg_bind_wrap ?_
    rw [← hA]
    refine wpAny_tests_nil ?_
    simp only [if_true]
    have hy : ∀ v, yieldOut Y.env v = yieldValue v := fun v => by simp only [yieldOut, hco, Bool.false_eq_true, if_false]
    simp only [hy]
    rw [Sem.bind_eq_wrap', Sem.bind_eq_wrap', Sem.wrap_wrap, Sem.wrap_wrap]
    refine seg_wrap ?_
    rw [← hA]
    have per := he.run _ s8 σ8 H8 _ I8 q8
    rw [hxe] at per
    refine thnF per fun z s9 ⟨yv, H9, I9, r9, b, eb, f9⟩ => ?_
    subst eb
    obtain rfl : z = Value.bool b := r9
    have pin' : ∀ b ∈ fp, ∀ o, s7.heap.get? b = some o → s9.heap.get? b = some o ∧ H9 b = none := fun b hb o e =>
      let z := I9.pin (b, o) (List.mem_append_right _ (List.mem_append_right _ (mem_pinsAt hb e)))
      ⟨z.1, z.2.1⟩
    have G9 : GI Y pn σw fp tn (i + 1) H9 s9 := ⟨(I9.unpinned (pins := pn)).weak (hwl σ8 hw8) (fun j v e => hw0 σ8 hw8 j v e), T.keep _ _ _ st7 fun b hb o e => (pin' b hb o e).1, fun b hb => by
      obtain ⟨o, e, _⟩ := T.obj _ _ st7 b hb
      exact (pin' b hb o e).2⟩
    refine seg_at (seg_yield rfl rfl rfl ⟨i, b, H9, by omega, hlt, rfl, G9, f9, fun s'' hs'' => ?_⟩)
    exact seg_again rfl (ih (i + 1) s'' s'' (by omega) hlt hs'')

/-- start -/
theorem seg_startG (T : Turn Y.prog Y.w Y.K tg J fp it tn) (hc : Y.calm = true) (hA : Y.A = A1.over (.compLoop (.GeneratorExp elt [⟨tg, iter, [], 0⟩] scope pos) 0 (.ref it) .none Y.env) []) (hco : Y.env.scope.isCoroutine = false)
    (hex : ∀ b ∈ fp, b ∈ Y.ex ∧ ∀ p ∈ Y.pn ++ pn, p.1 ≠ b) (hg : PG Y tg gt) (he : PE Y elt te) (hxe : Y.xe = fun _ _ => False) (hw0 : ∀ σ2 : L2.St, wipe σ2 vs = σw → ∀ (j : Nat) (v : V), σw[j]? = some (some v) → σ2[j]? = some (some v)) (hwl : ∀ σ2 : L2.St, wipe σ2 vs = σw → σw.length = σ2.length)
    (hturn : ∀ i H, i < n0 → Pv i H → J.go i H ∧ ∀ x H', J.yld i H x H' → gt x σw H' fun σ2 H2 => wipe σ2 vs = σw ∧ te σ2 H2 fun y H3 => ∃ b, y = .bl b ∧ Fz i b H3) (hend : ∀ H, Pv n0 H → J.stop n0 H)
    (s₀ s : Shared) (h : ∃ H, GI Y pn σw fp tn 0 H s ∧ Pv 0 H) :
      Seg (model Y.prog Y.w) A1 (genR Y pn σw n0 Pv) (genY Y pn σw fp tn n0 Pv Fz) (n0 + 1) s₀ (.compStart (.GeneratorExp elt [⟨tg, iter, [], 0⟩] scope pos) 0 (.ref it) .none Y.env)
        ((model Y.prog Y.w).den (.compStart (.GeneratorExp elt [⟨tg, iter, [], 0⟩] scope pos) 0 (.ref it) .none Y.env)) [] s := by
  have loop := seg_loopG (iter := iter) (scope := scope) (pos := pos) T hc hA hco hex hg he hxe hw0 hwl hturn hend n0 0 s₀ s (Nat.sub_zero _) (Nat.zero_le _) h
  obtain ⟨H, ⟨I, st, nf⟩, p⟩ := h
  show Seg _ A1 _ _ _ s₀ _ ((compStart (.GeneratorExp elt [⟨tg, iter, [], 0⟩] scope pos) 0 (.ref it) .none Y.env).onRaise (leaving Y.env)) [] s
  unfold compStart
  rw [Sem.onRaise_eq_wrap]
  show Seg _ A1 _ _ _ s₀ _ ((ask >>= _).wrap _ _ _ _) [] s
  refine seg_bind_wrap (wpAny_askSetting ?_)
  split
  · exact seg_again rfl loop
  · first
      | exact seg_bind_wrap (wpAny_rule (seg_bind_wrap (wpAny_standAt (seg_bind_wrap (T.self _ 0 s _ _ st (seg_again rfl loop))))))
      | (refine seg_bind_wrap (wpAny_rule ?_); show Seg _ A1 _ _ _ s₀ _ ((standAt iter.pos >>= _).wrap _ _ _ _) [] s; exact seg_bind_wrap (wpAny_standAt (seg_bind_wrap (T.self _ 0 s _ _ st (seg_again rfl loop)))))
/-- a generator that may be asked for its next -/
def GS (Y : Cx) (pn : List (Addr × Obj)) (σw : L2.St) (fp : List Addr) (tn : Nat → Heap → Prop) (n0 : Nat) (Pv : Nat → Hp → Prop) (Fz : Nat → Bool → Hp → Prop) (A1 : Around) (g : Nat) (i : Nat) (s : Shared) : Prop :=
  (∃ gs, s.gens[g]? = some gs ∧ ∀ s'', (∃ H', GI Y pn σw fp tn i H' s'' ∧ Pv i H') → gs.Goes (model Y.prog Y.w) A1 (genR Y pn σw n0 Pv) (genY Y pn σw fp tn n0 Pv Fz) (n0 - i + 1) (.send .none) s'') ∧ ∃ H, GI Y pn σw fp tn i H s ∧ Pv i H
theorem next_G {A : Around} {a : Addr} {g : Nat} {i : Nat} {s : Shared} {Q : Option Value → Shared → Prop} {E : Value → Shared → Prop} {X0 : Cx} {p0 : List (Addr × Obj)} (hh : A.handled = none) (hroom : A.depth < recursionLimit) (hi : i ≤ n0)
    (hgen : ∀ (H : Hp) (s : Shared), Inv Y pn σw H s → s.heap.IsGen a g)
    (h : GS Y pn σw fp tn n0 Pv Fz A.in1 g i s)
    (hY : i < n0 → ∀ b s' H1, GI Y pn σw fp tn (i + 1) H1 s' → Fz i b H1 → (Pv (i + 1) H1 → GS Y pn σw fp tn n0 Pv Fz A.in1 g (i + 1) s') → Q (some (.bool b)) s')
    (hN : ∀ s' H1, Inv Y pn σw H1 s' → Pv n0 H1 → Q none s') : wpAny (model Y.prog Y.w) A (pyNext (.ref a)) Q E s := by
  obtain ⟨⟨gs, hgs, hgo⟩, H, G, p⟩ := h
  have hl : g < s.gens.size := (Array.getElem?_eq_some_iff.mp hgs).1
  refine wpAny_with_gens (n := g + 1) hl ?_
  refine wpAny_pyNext_genexpQ (n := n0 - i + 1) (P := fun _ _ s₁ => ∃ H1, Inv Y pn σw H1 s₁ ∧ Pv n0 H1) hh G.1.nolimit hroom (hgen H s G.1) hgs (hgo _ ⟨H, G.setG rfl, p⟩) (fun v s₁ gs' hb hv => ?_) (fun s₁ hp h' hk => ?_)
  · obtain ⟨i', b, H1, ei, hi', rfl, G1, f1, kap⟩ := hv
    intro hsz
    have hsz : g + 1 ≤ s₁.gens.size := by simpa [Shared.setGen] using hsz
    by_cases hlt : i < n0
    · obtain rfl : i' = i := by omega
      refine hY hlt b _ H1 (G1.setG hb) f1 fun pv => ⟨⟨gs', ?_, fun s'' hs'' => ?_⟩, H1, G1.setG hb, pv⟩
      · show (s₁.gens.setIfInBounds g gs')[g]? = some gs'
        rw [Array.getElem?_setIfInBounds_self_of_lt (by omega)]
      · have e : n0 - (i' + 1) + 1 = n0 - i' := by omega
        rw [e]
        exact kap s'' hs''

    · omega
  · intro _
    obtain ⟨H1, I1, p1⟩ := hp
    have J1 : Inv Y pn σw H1 { s₁.setGen g .finished with heap := h' } := by
      have J0 : Inv Y pn σw H1 (s₁.setGen g .finished) := Inv.setG I1 fun z hz => by
        rcases Array.mem_or_eq_of_mem_setIfInBounds hz with hz | rfl
        · exact I1.bare _ hz
        · rfl
      exact J0.kept (t' := s₁.toks) hk
    exact hN _ H1 J1 p1
/-- all(..), any(..) -/
theorem all_loopG {A : Around} {a : Addr} {g : Nat} {Rr : Result → Shared → Prop} (hh : A.handled = none) (hroom : A.depth < recursionLimit)
    (hgen : ∀ (H : Hp) (s : Shared), Inv Y pn σw H s → s.heap.IsGen a g) (hF : ∀ i H, Fz i true H → Pv (i + 1) H)
    (h1 : ∀ s' H1, Inv Y pn σw H1 s' → Pv n0 H1 → Rr (.ok (.ret (.bool true))) s') (h0 : ∀ s' i H1, i < n0 → Inv Y pn σw H1 s' → Fz i false H1 → Rr (.ok (.ret (.bool false))) s') :
    ∀ (k i : Nat) (s : Shared), n0 - i = k → i ≤ n0 → GS Y pn σw fp tn n0 Pv Fz A.in1.in1 g i s → codeAny (model Y.prog Y.w) A (.builtin "all.loop" ⟨[.ref a], []⟩) Rr s := by
  intro k
  induction k with
  | zero =>
    intro i s hk hi hst
    refine codeAny_builtin F.entry_all_loop ?_
    rw [Around.under_plainId F.plain_all_loop _]
    show wpAny _ A.in1 (pyNext (.ref a) >>= _) _ _ s
    refine wpAny_bind (next_G (X0 := Y) (p0 := pn) hh hroom hi hgen hst (fun hlt => absurd hlt (by omega)) fun s' H1 I1 p1 => ?_)
    exact wpAny_bind (wpAny_rule (wpAny_pure (h1 s' H1 I1 p1)))
  | succ k ih =>
    intro i s hk hi hst
    refine codeAny_builtin F.entry_all_loop ?_
    rw [Around.under_plainId F.plain_all_loop _]
    show wpAny _ A.in1 (pyNext (.ref a) >>= _) _ _ s
    refine wpAny_bind (next_G (X0 := Y) (p0 := pn) hh hroom hi hgen hst (fun hlt b s' H1 G1 f1 nxt => ?_) fun s' H1 I1 p1 => ?_)
    · refine wpAny_bind (wpAny_holding (wpAny_truthy_bool ?_))
      refine wpAny_bind (wpAny_letGo ?_)
      cases b with
      | true =>
        simp only [if_true]
        exact wpAny_pure ⟨plainId_quiet F.plain_all_loop _, ih (i + 1) _ (by omega) hlt (nxt (hF i H1 f1))⟩
      | false =>
        simp only [Bool.false_eq_true, if_false]
        exact wpAny_bind (wpAny_rule (wpAny_pure (h0 s' i H1 hlt G1.1 f1)))
    · exact wpAny_bind (wpAny_rule (wpAny_pure (h1 s' H1 I1 p1)))
theorem any_loopG {A : Around} {a : Addr} {g : Nat} {Rr : Result → Shared → Prop} (hh : A.handled = none) (hroom : A.depth < recursionLimit)
    (hgen : ∀ (H : Hp) (s : Shared), Inv Y pn σw H s → s.heap.IsGen a g) (hF : ∀ i H, Fz i false H → Pv (i + 1) H)
    (h1 : ∀ s' H1, Inv Y pn σw H1 s' → Pv n0 H1 → Rr (.ok (.ret (.bool false))) s') (h0 : ∀ s' i H1, i < n0 → Inv Y pn σw H1 s' → Fz i true H1 → Rr (.ok (.ret (.bool true))) s') :
    ∀ (k i : Nat) (s : Shared), n0 - i = k → i ≤ n0 → GS Y pn σw fp tn n0 Pv Fz A.in1.in1 g i s → codeAny (model Y.prog Y.w) A (.builtin "any.loop" ⟨[.ref a], []⟩) Rr s := by
  intro k
  induction k with
  | zero =>
    intro i s hk hi hst
    refine codeAny_builtin F.entry_any_loop ?_
    rw [Around.under_plainId F.plain_any_loop _]
    show wpAny _ A.in1 (pyNext (.ref a) >>= _) _ _ s
    refine wpAny_bind (next_G (X0 := Y) (p0 := pn) hh hroom hi hgen hst (fun hlt => absurd hlt (by omega)) fun s' H1 I1 p1 => ?_)
    exact wpAny_bind (wpAny_rule (wpAny_pure (h1 s' H1 I1 p1)))
  | succ k ih =>
    intro i s hk hi hst
    refine codeAny_builtin F.entry_any_loop ?_
    rw [Around.under_plainId F.plain_any_loop _]
    show wpAny _ A.in1 (pyNext (.ref a) >>= _) _ _ s
    refine wpAny_bind (next_G (X0 := Y) (p0 := pn) hh hroom hi hgen hst (fun hlt b s' H1 G1 f1 nxt => ?_) fun s' H1 I1 p1 => ?_)
    · refine wpAny_bind (wpAny_holding (wpAny_truthy_bool ?_))
      refine wpAny_bind (wpAny_letGo ?_)
      cases b with
      | false =>
        simp only [Bool.false_eq_true, if_false]
        exact wpAny_pure ⟨plainId_quiet F.plain_any_loop _, ih (i + 1) _ (by omega) hlt (nxt (hF i H1 f1))⟩
      | true =>
        simp only [if_true]
        exact wpAny_bind (wpAny_rule (wpAny_pure (h0 s' i H1 hlt G1.1 f1)))
    · exact wpAny_bind (wpAny_rule (wpAny_pure (h1 s' H1 I1 p1)))
end
end BZ
end
section
set_option Elab.async false
set_option linter.all false
set_option maxRecDepth 100000
set_option maxHeartbeats 2000000
namespace BZ
open PySem PySem.Spec PyProof.Rows L2 GxR

/-- what a walk over a generator expression's truths asks: st, the truth that stops it -/
def tGen (stp : Bool) (P : Addr) (wi : TI) (gt : TG) (te : TE) (vs : List Nat) : TE := fun σ H Q => wi σ H fun J H1 => TabG H1 P ∧ ∀ HT, Tabbed P H1 HT → ∃ (n0 : Nat) (Pv : Nat → Hp → Prop) (Fz : Nat → Bool → Hp → Prop), Pv 0 HT ∧
  (∀ i H, i < n0 → Pv i H → J.go i H ∧ ∀ x H', J.yld i H x H' → gt x (wipe σ vs) H' fun σ2 H2 => wipe σ2 vs = wipe σ vs ∧ te σ2 H2 fun y H3 => ∃ b, y = .bl b ∧ Fz i b H3) ∧
  (∀ H, Pv n0 H → J.stop n0 H) ∧ (∀ i H, Fz i (!stp) H → Pv (i + 1) H) ∧ (∀ H, Pv n0 H → Q (.bl (!stp)) H) ∧ (∀ i H, i < n0 → Fz i stp H → Q (.bl stp) H)
theorem over_frames {A : Around} {e t i : Expr} {sc : Scope} {p : Pos} {it : Addr} {env : Env} : (A.over (.compLoop (.GeneratorExp e [⟨t, i, [], 0⟩] sc p) 0 (.ref it) .none env) []).frames = A.frames.map (env :: ·) := by
  show pushEnvs (Code.envs (.compLoop (.GeneratorExp e [⟨t, i, [], 0⟩] sc p) 0 (.ref it) .none env)) (pushEnvs [] A.frames) = _
  rfl
theorem over_room {k : Nat} {A : Around} {e t i : Expr} {sc : Scope} {p : Pos} {it : Addr} {env : Env} (hr : Room (k + 1) A) : Room k (A.in1.in1.over (.compLoop (.GeneratorExp e [⟨t, i, [], 0⟩] sc p) 0 (.ref it) .none env) []) := by
  have h1 := hr.dp
  have h2 := hr.un
  refine ⟨hr.hd, ?_, ?_⟩
  · show A.depth + 1 + 3 * k + 5 < _
    omega
  · show A.units + 1 + 1 + 3 + 16 * k + 200 < _
    omega
theorem wipe_idem_some {vs : List Nat} {σ σ2 : L2.St} (h : wipe σ2 vs = wipe σ vs) : ∀ (j : Nat) (v : V), (wipe σ vs)[j]? = some (some v) → σ2[j]? = some (some v) := fun j v e => by
  rw [← h] at e
  exact (wipe_some e).1
section
variable {X : Cx} {elt tg iter : Expr} {scope : Scope} {own : List (Str × Nat)} {p pos gpos : Pos} {wi : TI} {gt : TG} {te : TE} {k : Nat} {c P : Addr}
/-- the premises of a generator expression that all, any walks at once -/
structure GenOk (X : Cx) (k : Nat) (c P : Addr) (tg iter elt : Expr) (scope : Scope) (own : List (Str × Nat)) (wi : TI) (gt : TG) (te : TE) : Prop where
  hr : Room (k + 1) X.A
  hc : X.calm = true
  hN : X.N.Nodup
  TB : TabB X.base X.mg c P
  hcode : X.env.code = .ref c
  hi : PI X tg iter wi
  ok : BlkOk X.N X.env.scope scope own
  co : scope.isCoroutine = false
  cell : ∀ y ∈ scope.names, y.2 ≠ .cell
  dot : scope.names.lookup (".0" : Str) = some NameKind.local
  dN : (".0" : Str) ∉ X.N
  hgt : ∀ (A : Around) (s : Shared) (H : Hp) (C : Nat) (code : Value) (cl : List (Str × Addr)) (fp : List Addr), PG (gcx X A s H (genEnv scope cl C code builtinsNs X.env) fp) tg gt
  he : ∀ (A : Around) (s : Shared) (H : Hp) (C : Nat) (code : Value) (cl : List (Str × Addr)) (fp : List Addr), Room k A → PE (gcx X A s H (genEnv scope cl C code builtinsNs X.env) fp) elt te
  hs : ∀ v, genFold iter X.env v = pure v
theorem gen_core {stp : Bool} {pins : List (Addr × Obj)} {s : Shared} {σ : L2.St} {H : Hp} {Q : VK} {Q' : Value → Shared → Prop} (O : GenOk X k c P tg iter elt scope own wi gt te) (I : Inv X pins σ H s) (h : tGen stp P wi gt te (own.map (·.2)) σ H Q)
    (hQ : ∀ (Y : Cx) (pn : List (Addr × Obj)) (fp : List Addr) (tn : Nat → Heap → Prop) (n0 : Nat) (Pv : Nat → Hp → Prop) (Fz : Nat → Bool → Hp → Prop) (a : Addr) (g : Nat) (s5 : Shared), Y.prog = X.prog → Y.w = X.w →
      (∀ (H : Hp) (s : Shared), Inv Y pn (wipe σ (own.map (·.2))) H s → s.heap.IsGen a g) → GS Y pn (wipe σ (own.map (·.2))) fp tn n0 Pv Fz X.A.in1.in1 g 0 s5 → s5.heap.IsGen a g →
      (∀ i H, Fz i (!stp) H → Pv (i + 1) H) → (∀ H s', Inv Y pn (wipe σ (own.map (·.2))) H s' → Pv n0 H → EP X pins σ Q (.bool (!stp)) s') → (∀ i H s', i < n0 → Inv Y pn (wipe σ (own.map (·.2))) H s' → Fz i stp H → EP X pins σ Q (.bool stp) s') → Q' (.ref a) s5) :
    wpAny (model X.prog X.w) X.A (eval (.GeneratorExp elt [⟨tg, iter, [], 0⟩] scope gpos) X.env) Q' X.xe s := by
  have hfree : ∀ y ∈ scope.names, y.2 = .free → ∃ c, X.env.cells.lookup y.1 = some c := fun y hy e => by
    rcases O.ok.free y hy e with k | k
    · exact I.ok.has _ (.inl k)
    · exact I.ok.has _ (.inr k)
  refine wpAny_GeneratorExp_make O.co (closure_ok hfree) O.cell O.dot O.ok.kind O.hr.depth ?_ O.hs
  refine wpAny_mono (O.hi.run pins s σ H _ I h) (fun xv s1 h1 => wpAny_mono h1 (fun itv s2 h2 => ?_) fun _ _ e => e) fun _ _ e => e
  obtain ⟨it, fp, tn, J, H1, rfl, I1, T, st, fpo, ⟨ps, hP, ht⟩, q1⟩ := h2
  have TB := O.TB
  have hcode := O.hcode
  have hPs : s2.heap.get? P = some { cls := .none, data := .fields ps } := I1.hok P _ hP
  have cd : PySem.W.CodeHd s2.heap c P := TB.code.keeps fun b u e => I1.bk b u e
  refine ⟨I1.nolimit, ?_⟩
  have flt : ∀ b ∈ fp, b < s2.heap.objs.size := fun b hb => let ⟨o, e, _⟩ := T.obj _ _ st b hb; Heap.lt_size e
  have cont : ∀ (code : Value) (h3 : Heap) (tk : Nat) (ps' : Array Value), Heap.ExtBut P s2.heap h3 → s2.heap.objs.size ≤ h3.objs.size → h3.get? P = some { cls := .none, data := .fields ps' } → (∃ more, ps' = ps ++ more) → TriplesOk ps'.toList →
      wpAny (model X.prog X.w) X.A (builtinsFor X.env.globals X.env.builtins) (fun bi s₄ => ∀ (h' : Heap), (h'.Ns s₄.heap.objs.size fun y => if y = ".0" then some (.ref it) else none) → Heap.SameBut s₄.heap.objs.size (s₄.heap.push { cls := .type "frame", data := .dict #[] }) h' →
        Q' (.ref h'.objs.size) { s₄ with gens := s₄.gens.push (.fresh (.compStart (.GeneratorExp elt [⟨tg, iter, [], 0⟩] scope gpos) 0 (.ref it) .none (genEnv scope (cloFrom X.env.cells scope.names []) s₄.heap.objs.size code bi X.env))), toks := s₄.toks + 1 + 1 + 1, heap := h'.push { cls := .type "generator", data := .fields #[.int s₄.gens.size 0, .str "<genexpr>" (s₄.toks + 1), .str (X.env.qual ++ "<genexpr>") (s₄.toks + 1 + 1)] } }) X.xe { s2 with heap := h3, toks := tk } := by
    intro code h3 tk ps' hx hsz hP3 hmore ht3
    obtain ⟨bm, ob, e1, e2, e3, e4, e5, e6, e7, e8⟩ := TB.bm
    have keep3 : ∀ b u, b ≠ P → s2.heap.get? b = some u → h3.get? b = some u := fun b u hb e => hx b u hb e
    refine wpAny_builtinsFor (m := X.mg) (by rw [I1.ok.glob]; exact (I1.mod.glob.keeps I1.bk).extBut hx TB.gP) e1 e2 (keep3 _ _ e4 (I1.bk _ _ e5)) e6 e7 e8 ?_
    intro h' hns hsb
    obtain ⟨more, em⟩ := hmore
    -- the def's state with the table grown
    have I3 : Inv X pins σ (upd H1 P (.tbl (ps ++ more))) { s2 with heap := h3, toks := tk } := inv_tab (g' := s2.gens) (d' := s2.drawn) I1 hP keep3 (by rw [← em]; exact hP3) I1.bare
    have hTab : Tabbed P H1 (upd H1 P (.tbl (ps ++ more))) := ⟨⟨ps ++ more, upd_same, by rw [← em]; exact ht3⟩, fun b hb => upd_ne hb⟩
    obtain ⟨n0, Pv, Fz, p0, hturn, hend, hnext, hok, hno⟩ := q1 _ hTab
    have fP : ∀ b ∈ fp, b ≠ P := fun b hb z => by
      have := (fpo b hb).1
      rw [z, hP] at this; cases this
    have fp3 : ∀ b ∈ fp, FpOk X pins (upd H1 P (.tbl (ps ++ more))) b ∧ b < h3.objs.size := fun b hb => by
      obtain ⟨f1, f2⟩ := fpo b hb
      exact ⟨⟨by rw [upd_ne (fP b hb)]; exact f1, f2⟩, Nat.lt_of_lt_of_le (flt b hb) hsz⟩
    have hsz' : h'.objs.size = h3.objs.size + 1 := by rw [hsb.1, Heap.size_push]
    have keep' : ∀ b o, h3.get? b = some o → h'.get? b = some o := fun b o e => hsb.extBut b o (Nat.ne_of_lt (Heap.lt_size e)) (Heap.get?_push_of_some _ e)
    generalize hgob : ({ cls := .type "generator", data := .fields #[.int s2.gens.size 0, .str "<genexpr>" (tk + 1), .str (X.env.qual ++ "<genexpr>") (tk + 1 + 1)] } : Obj) = gob
    have gobd : gob.data = .fields #[.int s2.gens.size 0, .str "<genexpr>" (tk + 1), .str (X.env.qual ++ "<genexpr>") (tk + 1 + 1)] := by rw [← hgob]
    have gobc : gob.cls = .type "generator" := by rw [← hgob]
    have gobs : gob.slots = #[] := by rw [← hgob]
    have keep5 : ∀ b o, h3.get? b = some o → (h'.push gob).get? b = some o := fun b o e => Heap.get?_push_of_some _ (keep' b o e)
    have hget : (h'.push gob).get? h'.objs.size = some gob := Heap.get?_push_size _ (by
      rw [Obj.isFreed_of_fields gobd])
    generalize hcenv : genEnv scope (cloFrom X.env.cells scope.names []) h3.objs.size code builtinsNs X.env = cenv
    generalize hA' : (X.A.in1.in1.over (.compLoop (.GeneratorExp elt [⟨tg, iter, [], 0⟩] scope gpos) 0 (.ref it) .none cenv) []) = A'
    have I5 := gen_start (A' := A') (code := code) (it := it) (a := h'.objs.size) (h5 := h'.push gob) (g' := s2.gens.push (.fresh (.compStart (.GeneratorExp elt [⟨tg, iter, [], 0⟩] scope gpos) 0 (.ref it) .none cenv))) (t' := tk + 1 + 1 + 1) (gob := gob)
      I3 O.ok O.hN O.cell fp3 keep5 (hns.push _) hget (fun v z => by rw [gobd] at z; cases z) (by show h3.objs.size < _; omega) (I3.bare.push rfl) (by rw [← hA']; exact O.hr.hd) (by rw [← hA', over_frames]; show X.A.frames.map _ = _; rw [I.ok.frames, ← hcenv]; rfl) O.dN
    have eA : (genEnv scope (cloFrom X.env.cells scope.names []) ({ s2 with heap := h3, toks := tk } : Shared).heap.objs.size code builtinsNs X.env) = cenv := hcenv
    rw [eA] at I5
    have hgY := O.hgt A' { s2 with heap := h3, toks := tk } (upd H1 P (.tbl (ps ++ more))) h3.objs.size code (cloFrom X.env.cells scope.names []) fp
    have heY := O.he A' { s2 with heap := h3, toks := tk } (upd H1 P (.tbl (ps ++ more))) h3.objs.size code (cloFrom X.env.cells scope.names []) fp (by rw [← hA']; exact over_room O.hr)
    rw [hcenv] at hgY heY
    have cL : cenv.locals = h3.objs.size := by rw [← hcenv]; rfl
    have cco : cenv.scope.isCoroutine = false := by rw [← hcenv]; exact O.co
    have csc : cenv.scope = scope := by rw [← hcenv]; rfl
    generalize hY : gcx X A' { s2 with heap := h3, toks := tk } (upd H1 P (.tbl (ps ++ more))) cenv fp = Y at I5 hgY heY
    have yp : Y.prog = X.prog := by rw [← hY]
    have yw : Y.w = X.w := by rw [← hY]
    have yK : Y.K = X.K := by rw [← hY]
    have ye : Y.env = cenv := by rw [← hY]
    have yA : Y.A = A' := by rw [← hY]
    have yc : Y.calm = true := by rw [← hY]; exact O.hc
    have yx : Y.ex = fp := by rw [← hY]
    have ypn : Y.pn = [] := by rw [← hY]
    have yxe : Y.xe = fun _ _ => False := by rw [← hY]
    have st5 : tn 0 (h'.push gob) := T.keep _ _ _ st fun b hb o e => keep5 b o (keep3 b o (fP b hb) e)
    have T' : Turn Y.prog Y.w Y.K tg J fp it tn := by rw [yp, yw, yK]; exact T
    have hexY : ∀ b ∈ fp, b ∈ Y.ex ∧ ∀ p ∈ Y.pn ++ [(h'.objs.size, gob)], p.1 ≠ b := fun b hb => ⟨by rw [yx]; exact hb, fun p hp => by
      rw [ypn] at hp
      obtain rfl : p = (h'.objs.size, gob) := by simpa using hp
      have := (fp3 b hb).2
      show h'.objs.size ≠ b
      exact Nat.ne_of_gt (by rw [hsz']; exact Nat.lt_succ_of_lt this)⟩
    have GI0 : GI Y [(h'.objs.size, gob)] (wipe σ (own.map (·.2))) fp tn 0 (upd H1 P (.tbl (ps ++ more))) { s2 with heap := h'.push gob, gens := s2.gens.push (.fresh (.compStart (.GeneratorExp elt [⟨tg, iter, [], 0⟩] scope gpos) 0 (.ref it) .none cenv)), toks := tk + 1 + 1 + 1 } := ⟨I5, st5, fun b hb => (fp3 b hb).1.1⟩
    -- back in the def's context
    have back : ∀ (H6 : Hp) (s6 : Shared), Inv Y [(h'.objs.size, gob)] (wipe σ (own.map (·.2))) H6 s6 → Inv X pins σ H6 s6 := fun H6 s6 I6 => by
      subst hY
      exact I3.call' (ch := fp) I6.os I6.base I6.hok I6.bare fun b hb => ⟨(fp3 b hb).1.2.2.2.1, (fp3 b hb).1.2.1, (fp3 b hb).1.2.2.2.2.1, (fp3 b hb).1.2.2.2.2.2⟩
    have isg : ∀ (H : Hp) (s : Shared), Inv Y [(h'.objs.size, gob)] (wipe σ (own.map (·.2))) H s → s.heap.IsGen h'.objs.size s2.gens.size := fun H s I6 => ⟨gob, _, _, (I6.pin (h'.objs.size, gob) (by simp)).1, gobc, gobd, gobs⟩
    refine hQ Y [(h'.objs.size, gob)] fp tn n0 Pv Fz h'.objs.size s2.gens.size _ yp yw isg ⟨⟨_, Array.getElem?_push_size .., fun s'' hs'' => ⟨rfl, ?_⟩⟩, _, GI0, p0⟩ (isg _ _ I5) hnext (fun H6 s6 I6 p6 => ⟨.bl (!stp), H6, back H6 s6 I6, rfl, hok H6 p6⟩) (fun i H6 s6 hi I6 f6 => ⟨.bl stp, H6, back H6 s6 I6, rfl, hno i H6 hi f6⟩)
    have key := seg_startG (Y := Y) (pn := [(h'.objs.size, gob)]) (σw := wipe σ (own.map (·.2))) (vs := own.map (·.2)) (A1 := X.A.in1.in1) (iter := iter) (scope := scope) (pos := gpos) (n0 := n0) (Pv := Pv) (Fz := Fz) (gt := gt) (te := te) T' yc (by rw [yA, ye]; exact hA'.symm) (by rw [ye]; exact cco) hexY hgY heY yxe
      (fun σ2 h2 => wipe_idem_some h2) (fun σ2 h2 => by rw [← h2, wipe_length]) hturn hend s'' s'' hs''
    rw [ye] at key
    exact key
  cases hf : codeAmong gpos ps.toList with
  | none =>
    refine wpAny_genexprCodeX hcode (cd.code hPs ht) (cd.tab hPs) hf fun c' h' tk hx hge hlt hco' _ htab' _ => ?_
    obtain ⟨o1, vs, f1, tf, fl, tg, inF, tx, tt, op, _, _, _, _, _, _, _, _, _, htr, _⟩ := hco'
    exact cont _ h' tk _ hx (Nat.le_trans hge (Nat.le_of_lt hlt)) htab'.2 ⟨_, rfl⟩ htr
  | some cv =>
    refine wpAny_genexprCode_hit hcode (cd.code hPs ht) hf ?_
    exact cont cv s2.heap s2.toks ps (Heap.ExtBut.refl _ _) (Nat.le_refl _) hPs ⟨#[], by simp⟩ ht
theorem pe_allG (O : GenOk X k c P tg iter elt scope own wi gt te) (hg : Gl X "all") (hm : X.mg "all" = none)
    (he : starEach [.GeneratorExp elt [⟨tg, iter, [], 0⟩] scope gpos] X.env = (false, eval (.GeneratorExp elt [⟨tg, iter, [], 0⟩] scope gpos) X.env) :: starEach [] X.env := by rfl) :
    PE X (.Call (.Name "all" p) [.GeneratorExp elt [⟨tg, iter, [], 0⟩] scope gpos] [] pos) (tGen false P wi gt te (own.map (·.2))) := by
  refine ⟨fun pins s σ H Q I h => ?_⟩
  refine wpAny_Call_Name_kw (ld_blt I hg hm (show bootBuiltins "all" = some (.builtin "all") from rfl) ?_)
  refine PyProof.Rows.callWith_builtin1 ?_ he (by rfl)
  rw [he]
  show wpAny _ _ (spliced ((false, eval (.GeneratorExp elt [⟨tg, iter, [], 0⟩] scope gpos) X.env) :: backTo pos (starEach [] X.env))) _ _ s
  refine Calls.spliced_cons (gen_core O I h fun Y pn fp tn n0 Pv Fz a g s5 yp yw isg gs isg5 hn h1 h0 => ?_)
  refine Calls.spliced_nil ?_
  refine call_function_tree F.kind_all F.plain_all F.entry_all (F.args_all1 _) ?_
  unfold Builtin.«all»
  refine wpAny_bind (m := oneArg "all" _) (wpAny_pure ?_)
  refine wpAny_bind (wpAny_pyIter_gen isg5 ?_)
  refine wpAny_pure ⟨plainId_quiet F.plain_all_loop _, ?_⟩
  have key := all_loopG (Y := Y) (A := X.A) (a := a) (g := g) (Rr := fun r s' => match r with | Except.ok (Flow.ret v) => EP X pins σ Q v s' | Except.ok _ => False | Except.error e => X.xe e s') O.hr.hd O.hr.depth isg hn (fun s' H1 I1 p1 => h1 H1 s' I1 p1) (fun s' i H1 hi I1 f1 => h0 i H1 s' hi I1 f1) n0 0 s5 rfl (Nat.zero_le _) gs
  rw [yp, yw] at key
  exact key
theorem pe_anyG (O : GenOk X k c P tg iter elt scope own wi gt te) (hg : Gl X "any") (hm : X.mg "any" = none)
    (he : starEach [.GeneratorExp elt [⟨tg, iter, [], 0⟩] scope gpos] X.env = (false, eval (.GeneratorExp elt [⟨tg, iter, [], 0⟩] scope gpos) X.env) :: starEach [] X.env := by rfl) :
    PE X (.Call (.Name "any" p) [.GeneratorExp elt [⟨tg, iter, [], 0⟩] scope gpos] [] pos) (tGen true P wi gt te (own.map (·.2))) := by
  refine ⟨fun pins s σ H Q I h => ?_⟩
  refine wpAny_Call_Name_kw (ld_blt I hg hm (show bootBuiltins "any" = some (.builtin "any") from rfl) ?_)
  refine PyProof.Rows.callWith_builtin1 ?_ he (by rfl)
  rw [he]
  show wpAny _ _ (spliced ((false, eval (.GeneratorExp elt [⟨tg, iter, [], 0⟩] scope gpos) X.env) :: backTo pos (starEach [] X.env))) _ _ s
  refine Calls.spliced_cons (gen_core O I h fun Y pn fp tn n0 Pv Fz a g s5 yp yw isg gs isg5 hn h1 h0 => ?_)
  refine Calls.spliced_nil ?_
  refine call_function_tree F.kind_any F.plain_any F.entry_any (F.args_any1 _) ?_
  unfold Builtin.«any»
  refine wpAny_bind (m := oneArg "any" _) (wpAny_pure ?_)
  refine wpAny_bind (wpAny_pyIter_gen isg5 ?_)
  refine wpAny_pure ⟨plainId_quiet F.plain_any_loop _, ?_⟩
  have key := any_loopG (Y := Y) (A := X.A) (a := a) (g := g) (Rr := fun r s' => match r with | Except.ok (Flow.ret v) => EP X pins σ Q v s' | Except.ok _ => False | Except.error e => X.xe e s') O.hr.hd O.hr.depth isg hn (fun s' H1 I1 p1 => h1 H1 s' I1 p1) (fun s' i H1 hi I1 f1 => h0 i H1 s' hi I1 f1) n0 0 s5 rfl (Nat.zero_le _) gs
  rw [yp, yw] at key
  exact key
end
end BZ
end
section
set_option Elab.async false
set_option linter.all false
set_option maxRecDepth 100000
set_option maxHeartbeats 1000000
namespace BZ
open PySem PySem.Spec PyProof.Rows L2 GxR

/-- a def's table has grown -/
theorem W.tabbed {K : Kw} {F : Frm} {ρ : E} {G H H' : Hp} {α : Al} {σ : L2.St} {P : Addr} (w : W K F ρ G α σ H) (hP : F.T P) (t : Tabbed P H H') : W K F ρ G α σ H' := by
  obtain ⟨⟨ps, hp, _⟩, gP⟩ := w.tab P hP
  obtain ⟨tg, kp⟩ := t
  have ne : ∀ b o, H b = some o → isTbl o = false → b ≠ P := fun b o e n z => by rw [z, hp] at e; cases e; cases n
  refine ⟨fun a o e => ?_, w.len, w.slot, fun i d e => ?_, w.lent, w.sep, fun n d e => ?_, w.dom, w.inj, w.old, fun a o e1 e2 e3 => ?_, fun a o e => ?_, w.gnew, w.n0, fun P2 hP2 => ?_⟩
  · rw [kp a (fun z => by rw [z, gP] at e; cases e)]; exact w.sub a o e
  · obtain ⟨a, h1, h2, h3⟩ := w.own i d e
    obtain ⟨o, ho, ht⟩ := own_notTbl h2
    exact ⟨a, h1, h2.keep Ext.refl (kp a (ne a o ho ht)), h3⟩
  · obtain ⟨a, h1, h2, h3⟩ := w.cell n d e
    obtain ⟨o, ho, ht⟩ := own_notTbl h2
    exact ⟨a, h1, h2.keep Ext.refl (kp a (ne a o ho ht)), h3⟩
  · have q := w.keep a o e1 e2 e3
    rw [kp a (ne a o q e3)]; exact q
  · obtain ⟨o', q⟩ := w.there a o e
    by_cases z : a = P
    · obtain ⟨ps', z', _⟩ := tg
      exact ⟨_, by rw [z]; exact z'⟩
    · exact ⟨o', by rw [kp a z]; exact q⟩
  · obtain ⟨⟨ps2, q1, q2⟩, q3⟩ := w.tab P2 hP2
    by_cases z : P2 = P
    · rw [z]; exact ⟨tg, gP⟩
    · exact ⟨⟨ps2, by rw [kp P2 z]; exact q1, q2⟩, q3⟩
def genS (stp : Bool) (t : Tg) (vs : List Nat) (me : M D) : List D → M D
  | [] => ret (.bl (!stp))
  | d :: ds => fun ρ => match t.set d (ρ.inB vs) with
    | none => .no
    | some ρ1 => match me ρ1 with
      | .ok (.bl b) ρ2 => if b = stp then .ok (.bl stp) { ρ with st := ρ2.st } else genS stp t vs me ds { ρ with st := ρ2.st }
      | _ => .no
theorem genS_cons {stp : Bool} {t : Tg} {vs : List Nat} {me : M D} {d : D} {ds : List D} {ρ : E} : genS stp t vs me (d :: ds) ρ = match t.set d (ρ.inB vs) with
    | none => .no
    | some ρ1 => match me ρ1 with
      | .ok (.bl b) ρ2 => if b = stp then .ok (.bl stp) { ρ with st := ρ2.st } else genS stp t vs me ds { ρ with st := ρ2.st }
      | _ => .no := rfl
section
variable {X : Cx} {F : Frm} {Wx : WX} {tg iter elt : Expr} {pos gpos p : Pos} {scope : Scope} {own : List (Str × Nat)} {t : Tg} {m : M (List D)} {me : M D} {k : Nat} {c P : Addr}
structure GenP (X : Cx) (F : Frm) (Wx : WX) (k : Nat) (c P : Addr) (tg iter elt : Expr) (scope : Scope) (own : List (Str × Nat)) (t : Tg) (m : M (List D)) (me : M D) : Prop where
  hr : Room (k + 1) X.A
  hc : X.calm = true
  hN : X.N.Nodup
  TB : TabB X.base X.mg c P
  hT : F.T P
  hcode : X.env.code = .ref c
  hi : PID X F Wx tg iter m
  ok : BlkOk X.N X.env.scope scope own
  hin : t.inn (own.map (·.2)) = true
  co : scope.isCoroutine = false
  cell : ∀ y ∈ scope.names, y.2 ≠ .cell
  dot : scope.names.lookup (".0" : Str) = some NameKind.local
  dN : (".0" : Str) ∉ X.N
  hgt : ∀ (A : Around) (s : Shared) (H : Hp) (C : Nat) (code : Value) (cl : List (Str × Addr)) (fp : List Addr), PG (gcx X A s H (genEnv scope cl C code builtinsNs X.env) fp) tg (t.g X.K)
  he : ∀ (A : Around) (s : Shared) (H : Hp) (C : Nat) (code : Value) (cl : List (Str × Addr)) (fp : List Addr), Room k A → ∀ (H0 G0 : Hp) (n0 : Nat) (α0 : Al), PD (gcx X A s H (genEnv scope cl C code builtinsNs X.env) fp) ⟨H0, G0, n0, α0, F.T⟩ WF elt me
  hs : ∀ v, genFold iter X.env v = pure v
theorem pd_gen {stp : Bool} {e : Expr} (O : GenP X F Wx k c P tg iter elt scope own t m me)
    (h : ∀ {wi gt te}, GenOk X k c P tg iter elt scope own wi gt te → PE X e (tGen stp P wi gt te (own.map (·.2)))) : PD X F Wx e (m >>= genS stp t (own.map (·.2)) me) := by
  let te : TE := fun σ H Q => ∃ (H0 G0 : Hp) (n0 : Nat) (α0 : Al), trE X ⟨H0, G0, n0, α0, F.T⟩ WF me σ H Q
  refine PE.imp' (h (wi := trI X F Wx m) (gt := t.g X.K) (te := te) ⟨O.hr, O.hc, O.hN, O.TB, O.hcode, O.hi, O.ok, O.co, O.cell, O.dot, O.dN, O.hgt, fun A s H C code cl fp r => ⟨fun pins s' σ H Q I ⟨H0, G0, n0, α0, q⟩ => (O.he A s _ C code cl fp r H0 G0 n0 α0).run pins s' σ H Q I q⟩, O.hs⟩) fun σ H Q ⟨ρ, G, α, w, h⟩ => ?_
  have hin := O.hin
  generalize hvs : own.map (·.2) = vs at *
  refine ⟨ρ, G, α, w, h.bind.imp fun ds ρ1 q J H1 G1 α1 w1 x1 wk => ⟨(w1.tab P O.hT).1, fun HT hT => ?_⟩⟩
  have q := okR.ext PV.anti PZ.anti x1 q
  have wT := w1.tabbed O.hT hT
  refine ⟨ds.length, fun i H' => ∃ (ρ' : E) (G' : Hp) (α' : Al), W (kw X) F ρ' G' α' σ H' ∧ Ext G1 α1 G' α' ∧ okR (PV X F σ Q) (PZ X F Wx σ) G' α' (genS stp t vs me (ds.drop i) ρ'),
    fun i b H' => ∃ (ρ' : E) (G' : Hp) (α' : Al), W (kw X) F ρ' G' α' σ H' ∧ Ext G1 α1 G' α' ∧ okR (PV X F σ Q) (PZ X F Wx σ) G' α' (if b = stp then .ok (.bl stp) ρ' else genS stp t vs me (ds.drop (i + 1)) ρ'), ⟨ρ1, G1, α1, wT, Ext.refl, by rw [List.drop_zero]; exact q⟩, fun i H' hi ⟨ρ', G', α', w', x', q'⟩ => ?_, fun H' ⟨ρ', G', α', w', x', q'⟩ => (wk F ρ' G' α' σ H' w' x').2.1 _ (Nat.le_refl _), fun i H' ⟨ρ', G', α', w', x', q'⟩ => ?_, fun H' ⟨ρ', G', α', w', x', q'⟩ => ?_, fun i H' hi ⟨ρ', G', α', w', x', q'⟩ => ?_⟩
  · obtain ⟨k1, k2, k3⟩ := wk F ρ' G' α' σ H' w' x'
    refine ⟨k1 i hi, fun x H2 y => ?_⟩
    obtain ⟨G2, w2, x2, r2, sb, sg⟩ := k3 i _ x H2 (List.getElem?_eq_getElem hi) y
    rw [drop_at hi, genS_cons] at q'
    have wb := w2.blk (w2.lnd.wipe vs)
    cases e1 : t.set ds[i] (ρ'.inB vs) with
    | none => rw [e1] at q'; exact q'.elim
    | some ρ2 =>
      rw [e1] at q'
      refine Tg.ok (K := kw X) wb t _ r2 e1 fun σ2 wb2 hw => ⟨by rw [hw vs hin, wipe_wipe], _, _, _, _, ρ2, G2, α', wb2, ?_⟩
      dsimp only at q'
      cases e2 : me ρ2 with
      | ex _ _ => rw [e2] at q'; exact q'.elim
      | no => rw [e2] at q'; exact q'.elim
      | ok d ρ3 =>
        rw [e2] at q'
        cases d with
        | bl b =>
          intro v H3 G3 α3 w3 x3 r3
          have r3 : Rep (kw X) G3 α3 (.bl b) v := r3
          unfold Rep at r3
          subst r3
          exact ⟨b, rfl, { ρ' with st := ρ3.st }, G3, α3, W.back w2 w3.forget x3, x'.trans (x2.trans x3), okR.ext PV.anti PZ.anti (x2.trans x3) q'⟩
        | _ => exact q'.elim
  · rw [if_neg (by cases stp <;> simp)] at q'
    exact ⟨ρ', G', α', w', x', q'⟩
  · rw [List.drop_eq_nil_of_le (Nat.le_refl _)] at q'
    exact q' _ H' G' α' w' Ext.refl (by unfold TRep Rep; rfl)
  · rw [if_pos rfl] at q'
    exact q' _ H' G' α' w' Ext.refl (by unfold TRep Rep; rfl)
theorem pd_all (O : GenP X F Wx k c P tg iter elt scope own t m me) (hg : Gl X "all") (hm : X.mg "all" = none)
    (he : starEach [.GeneratorExp elt [⟨tg, iter, [], 0⟩] scope gpos] X.env = (false, eval (.GeneratorExp elt [⟨tg, iter, [], 0⟩] scope gpos) X.env) :: starEach [] X.env := by rfl) :
    PD X F Wx (.Call (.Name "all" p) [.GeneratorExp elt [⟨tg, iter, [], 0⟩] scope gpos] [] pos) (m >>= genS false t (own.map (·.2)) me) := pd_gen O fun O' => pe_allG O' hg hm he
theorem pd_any (O : GenP X F Wx k c P tg iter elt scope own t m me) (hg : Gl X "any") (hm : X.mg "any" = none)
    (he : starEach [.GeneratorExp elt [⟨tg, iter, [], 0⟩] scope gpos] X.env = (false, eval (.GeneratorExp elt [⟨tg, iter, [], 0⟩] scope gpos) X.env) :: starEach [] X.env := by rfl) :
    PD X F Wx (.Call (.Name "any" p) [.GeneratorExp elt [⟨tg, iter, [], 0⟩] scope gpos] [] pos) (m >>= genS true t (own.map (·.2)) me) := pd_gen O fun O' => pe_anyG O' hg hm he
end
end BZ
end
section
set_option Elab.async false
set_option linter.all false
set_option maxRecDepth 100000
set_option maxHeartbeats 1000000
namespace BZ
open PySem PySem.Spec PyProof.Rows L2

section
variable {X : Cx} {F : Frm} {Wx : WX} {e a b c tg iter elt : Expr} {es : List Expr} {pos p tpos apos cpos : Pos} {ma mb mo : M D} {ms : M (List D)} {sts : List Stmt}
/-! ## what is walked -/
def chars (x : Str) : List D := x.cps.toList.map fun c => .str ⟨#[c]⟩
def walkD (d : D) : M (List D) := fun ρ => match d with
  | .lst l => .ok l ρ
  | .tup l => .ok l ρ
  | .scr l => .ok l ρ
  | .str x => .ok (chars x) ρ
  | _ => .no
theorem walk_list {K : Kw} {G : Hp} {α : Al} {a : Addr} {ds : List D} {xs : List V} (h : ∀ (H : Hp), (∀ a o, G a = some o → H a = some o) → SqL K.K H a xs) (r : RepL K G α ds xs) : WalkOk K (Itl K.K a) ds G α := fun F ρ G1 α1 σ H w x => by
  have hs : SqL K.K H a xs := h H fun a o e => w.sub _ _ (x.g _ _ e)
  have r1 := RepL.ext x _ _ r
  refine ⟨fun i hi => ?_, fun i hi => ⟨xs, hs, by rw [r.length]; exact hi⟩, fun i d y H' e q => ?_⟩
  · obtain ⟨v, h1, _⟩ := r1.get (List.getElem?_eq_getElem hi)
    exact ⟨xs, v, hs, h1⟩
  · obtain ⟨rfl, q⟩ := q
    obtain ⟨v, h1, h2⟩ := r1.get e
    have := q xs hs
    rw [h1] at this; cases this
    exact ⟨G1, w, Ext.refl, h2, fun _ _ e => e, fun a o e => .inl ⟨o, e⟩⟩
theorem walk_tup {K : Kw} {G : Hp} {α : Al} {a : Addr} {ds : List D} {xs : List V} (h : SqT K.K G a xs) (r : RepL K G α ds xs) : WalkOk K (Itt K.K a) ds G α := fun F ρ G1 α1 σ H w x => by
  have hs : SqT K.K H a xs := SqT.sub h fun a o e => w.sub _ _ (x.g _ _ e)
  have r1 := RepL.ext x _ _ r
  refine ⟨fun i hi => ?_, fun i hi => ⟨xs, hs, by rw [r.length]; exact hi⟩, fun i d y H' e q => ?_⟩
  · obtain ⟨v, h1, _⟩ := r1.get (List.getElem?_eq_getElem hi)
    exact ⟨xs, v, hs, h1⟩
  · obtain ⟨rfl, q⟩ := q
    obtain ⟨v, h1, h2⟩ := r1.get e
    have := q xs hs
    rw [h1] at this; cases this
    exact ⟨G1, w, Ext.refl, h2, fun _ _ e => e, fun a o e => .inl ⟨o, e⟩⟩
theorem walk_str {K : Kw} {G : Hp} {α : Al} {x : Str} : WalkOk K (Its x) (chars x) G α := fun F ρ G1 α1 σ H w y => by
  have hl : (chars x).length = x.cps.size := by simp [chars]
  refine ⟨fun i hi => by rw [hl] at hi; exact hi, fun i hi => by rw [hl] at hi; exact hi, fun i d v H' e q => ?_⟩
  obtain ⟨rfl, c, h1, h2⟩ := q
  have : d = .str ⟨#[c]⟩ := by
    unfold chars at e
    rw [List.getElem?_map, Array.getElem?_toList, h1] at e
    cases e; rfl
  subst this
  subst h2
  exact ⟨G1, w, Ext.refl, by unfold Rep; rfl, fun _ _ e => e, fun a o e => .inl ⟨o, e⟩⟩
theorem PI.of {m : M (List D)} (h : ∀ (σ : L2.St) (H : Hp) (Rr : It → Hp → Prop), trI X F Wx m σ H Rr → ∃ t : TI, PI X tg iter t ∧ t σ H Rr) : PID X F Wx tg iter m :=
  ⟨fun pins s σ H Rr I q => (let ⟨t, p, q'⟩ := h σ H Rr q; p.run pins s σ H Rr I q')⟩
/-- a list, a tuple, a text, the script -/
theorem pid_seq (ha : PD X F Wx a ma) : PID X F Wx tg a (ma >>= walkD) := PI.of fun σ H Rr ⟨ρ, G, α, w, h⟩ => by
  have hb := h.bind
  cases e : ma ρ with
  | no => rw [e] at hb; exact hb.elim
  | ex x ρ' =>
    rw [e] at hb
    refine ⟨_, pi_list ha, ρ, G, α, w, ?_⟩
    rw [e]; exact hb
  | ok d ρ1 =>
    rw [e] at hb
    have hb : okR (PWk X F σ Rr) (PZ X F Wx σ) G α (walkD d ρ1) := hb
    cases d with
    | lst l =>
      refine ⟨_, pi_list ha, ρ, G, α, w, ?_⟩
      rw [e]; intro v H1 G1 α1 w1 x1 r1
      have r1 : Rep (kw X) G1 α1 (.lst l) v := r1
      unfold Rep at r1
      obtain ⟨p, xs, rfl, h1, r2⟩ := r1
      refine ⟨p, rfl, ⟨xs, SqL.of (w1.sub _ _ h1)⟩, hb _ H1 G1 α1 w1 x1 ?_⟩
      exact walk_list (K := kw X) (fun H s => SqL.of (s _ _ h1)) r2
    | scr l =>
      refine ⟨_, pi_list ha, ρ, G, α, w, ?_⟩
      rw [e]; intro v H1 G1 α1 w1 x1 r1
      have r1 : Rep (kw X) G1 α1 (.scr l) v := r1
      unfold Rep at r1
      obtain ⟨p, xs, rfl, h1, r2⟩ := r1
      refine ⟨p, rfl, ⟨xs, SqL.sub h1 w1.sub⟩, hb _ H1 G1 α1 w1 x1 ?_⟩
      exact walk_list (K := kw X) (fun H s => SqL.sub h1 s) r2
    | tup l =>
      refine ⟨_, pi_tup ha, ρ, G, α, w, ?_⟩
      rw [e]; intro v H1 G1 α1 w1 x1 r1
      have r1 : Rep (kw X) G1 α1 (.tup l) v := r1
      unfold Rep at r1
      obtain ⟨p, xs, rfl, h1, r2⟩ := r1
      exact ⟨p, rfl, ⟨xs, SqT.sub h1 w1.sub⟩, hb _ H1 G1 α1 w1 x1 (walk_tup (K := kw X) h1 r2)⟩
    | str x =>
      refine ⟨_, pi_str ha, ρ, G, α, w, ?_⟩
      rw [e]; intro v H1 G1 α1 w1 x1 r1
      have r1 : Rep (kw X) G1 α1 (.str x) v := r1
      unfold Rep at r1
      exact ⟨x, r1, hb _ H1 G1 α1 w1 x1 walk_str⟩
    | _ => exact hb.elim
/-- range -/
def rgs (lo : Int) (n : Nat) : List D := (List.range n).map fun i => .int (lo + (i : Nat))
def inB62 (i : Int) : Bool := decide (-(2 ^ 62) ≤ i) && decide (i < 2 ^ 62)
def range1D (ds : List D) : M (List D) := fun ρ => match ds with
  | [.int j] => if inB62 j then .ok (rgs 0 j.toNat) ρ else .no
  | _ => .no
def range2D (ds : List D) : M (List D) := fun ρ => match ds with
  | [.int i, .int j] => if inB62 i && inB62 j then .ok (rgs i (j - i).toNat) ρ else .no
  | _ => .no
theorem ints_len {lo : Int} {n : Nat} : (rgs lo n).length = n := by simp [rgs]
theorem walk_rng {K : Kw} {G : Hp} {α : Al} {lo : Int} {n : Nat} : WalkOk K (Itr lo n) (rgs lo n) G α := fun F ρ G1 α1 σ H w y => by
  refine ⟨fun i hi => by rw [ints_len] at hi; exact hi, fun i hi => by rw [ints_len] at hi; exact hi, fun i d v H' e q => ?_⟩
  obtain ⟨rfl, rfl⟩ := q
  have hi : i < n := by
    have := (List.getElem?_eq_some_iff.mp e).1
    rw [ints_len] at this; exact this
  have : d = .int (lo + (i : Nat)) := by
    unfold rgs at e
    rw [List.getElem?_map, List.getElem?_range hi] at e
    cases e; rfl
  subst this
  exact ⟨G1, w, Ext.refl, by unfold Rep; rfl, fun _ _ e => e, fun a o e => .inl ⟨o, e⟩⟩
theorem trep_int {K : Kw} {σ : L2.St} {G : Hp} {α : Al} {i : Int} {v : V} (h : TRep K σ G α (.int i) v) : v = .int i := by
  have h : Rep K G α (.int i) v := h
  unfold Rep at h; exact h
theorem inB62_iff {i : Int} (h : inB62 i = true) : -(2 ^ 62) ≤ i ∧ i < 2 ^ 62 := by unfold inB62 at h; simpa using h
theorem pid_range1 (hg : Gl X "range") (hm : X.mg "range" = none) (ha : PDA X F Wx [a] ms) (hs : starEach [a] X.env = [(false, eval a X.env)] := by rfl) : PID X F Wx tg (.Call (.Name "range" p) [a] [] pos) (ms >>= range1D) := PI.of fun σ H Rr ⟨ρ, G, α, w, h⟩ =>
  ⟨_, pi_range1 hg hm ha hs, ρ, G, α, w, h.bind.imp fun ds ρ1 q vs H1 G1 α1 w1 x1 r1 => by
    unfold range1D at q
    split at q
    · split at q
      · rename_i j hj
        obtain ⟨v, rfl, r⟩ := one_of r1
        obtain rfl := trep_int r
        have := inB62_iff hj
        exact ⟨j, rfl, this.1, this.2, q _ H1 G1 α1 w1 x1 walk_rng⟩
      · exact q.elim
    · exact q.elim⟩
theorem pid_range2 (hg : Gl X "range") (hm : X.mg "range" = none) (ha : PDA X F Wx [a, b] ms) (hs : starEach [a, b] X.env = [(false, eval a X.env), (false, eval b X.env)] := by rfl) (hs2 : starEach [b] X.env = [(false, eval b X.env)] := by rfl) : PID X F Wx tg (.Call (.Name "range" p) [a, b] [] pos) (ms >>= range2D) := PI.of fun σ H Rr ⟨ρ, G, α, w, h⟩ =>
  ⟨_, pi_range2 hg hm ha hs hs2, ρ, G, α, w, h.bind.imp fun ds ρ1 q vs H1 G1 α1 w1 x1 r1 => by
    unfold range2D at q
    split at q
    · split at q
      · rename_i i j hj
        obtain ⟨v, v', rfl, r, r'⟩ := two_of r1
        obtain rfl := trep_int r
        obtain rfl := trep_int r'
        have hj : inB62 i = true ∧ inB62 j = true := by simpa using hj
        have h1 := inB62_iff hj.1
        have h2 := inB62_iff hj.2
        exact ⟨i, j, rfl, ⟨h1.1, h1.2, h2.1, h2.2⟩, q _ H1 G1 α1 w1 x1 walk_rng⟩
      · exact q.elim
    · exact q.elim⟩
/-! ## subscripts -/
def atD (l : List D) (i : Int) : Option D := (ixN l.length i).bind fun j => l[j]?
def kdGet : List D → List D → Str → Option D
  | .str y :: ks, v :: vs, x => if y = x then some v else kdGet ks vs x
  | _ :: ks, _ :: vs, x => kdGet ks vs x
  | _, _, _ => none
def dctGet : List D → List D → Key → Option D
  | d :: ks, v :: vs, k => if keyD d = some k then some v else dctGet ks vs k
  | _, _, _ => none
def ixD : D → D → Option D
  | .lst l, .int i => atD l i
  | .tup l, .int i => atD l i
  | .scr l, .int i => atD l i
  | .str x, .int i => if x.length ≤ 16777216 then ((ixN x.cps.toList.length i).bind fun j => x.cps.toList[j]?).map fun c => .str ⟨#[c]⟩ else none
  | .kd ks vs, .str x => kdGet ks vs x
  | .dct ks vs, y => match keyD y, keysD ks with
    | some k, some _ => dctGet ks vs k
    | _, _ => none
  | _, _ => none
theorem keysD_cons {d : D} {ks : List D} {kk : List Key} (h : keysD (d :: ks) = some kk) : ∃ k r, keyD d = some k ∧ keysD ks = some r ∧ kk = k :: r := by
  unfold keysD at h
  split at h
  · rename_i k r h1 h2
    cases h
    exact ⟨k, r, h1, h2, rfl⟩
  · cases h
theorem dctGet_ok {K : Kw} {G : Hp} {α : Al} : ∀ {ks vs : List D} {kk : List Key} {xs : List V} {k : Key}, keysD ks = some kk → RepL K G α vs xs → xs.length = ks.length →
    (∀ d, dctGet ks vs k = some d → ∃ v, valV (kk.zip xs) k = some v ∧ Rep K G α d v) ∧ (dctGet ks vs k = none → valV (kk.zip xs) k = none)
  | [], vs, kk, xs, k, h, r, l => by
    unfold keysD at h
    cases h
    refine ⟨fun d e => ?_, fun _ => rfl⟩
    unfold dctGet at e
    cases e
  | d :: ks, [], kk, xs, k, h, r, l => by
    have := r.length
    rw [this] at l; cases l
  | d :: ks, v :: vs, kk, xs, k, h, r, l => by
    obtain ⟨k0, r0, h1, h2, rfl⟩ := keysD_cons h
    unfold RepL at r
    obtain ⟨x, xs', rfl, r1, r2⟩ := r
    have ih := dctGet_ok (k := k) h2 r2 (by simpa using l)
    unfold dctGet
    rw [h1]
    by_cases e : k0 = k
    · subst e
      rw [if_pos rfl]
      refine ⟨fun d' z => ?_, fun z => by cases z⟩
      cases z
      exact ⟨x, by unfold valV; simp, r1⟩
    · rw [if_neg (by simpa using e)]
      have z : valV ((k0, x) :: r0.zip xs') k = valV (r0.zip xs') k := by
        unfold valV
        rw [List.find?_cons_of_neg (by simpa using e)]
      show (∀ d, dctGet ks vs k = some d → ∃ v, valV ((k0, x) :: r0.zip xs') k = some v ∧ Rep K G α d v) ∧ (dctGet ks vs k = none → valV ((k0, x) :: r0.zip xs') k = none)
      rw [z]
      exact ih
theorem atD_ok {K : Kw} {G : Hp} {α : Al} {l : List D} {xs : List V} {i : Int} {d : D} (r : RepL K G α l xs) (h : atD l i = some d) : ∃ v, atI xs i = some v ∧ Rep K G α d v := by
  unfold atD at h
  unfold atI
  rw [r.length]
  cases e : ixN l.length i with
  | none => rw [e] at h; cases h
  | some j =>
    rw [e] at h
    obtain ⟨v, h1, h2⟩ := r.get h
    exact ⟨v, h1, h2⟩
def rIxG (X : Cx) : R2 := fun x y H Q => ∃ a v, x = .ref a ∧ DGet H a y (some v) ∧ Q v H
theorem ix_dct (hu : X.A.units + 1 < cLine) : IxR X (rIxG X) := by
  intro value slice pins s σ H x y v u Q I rx ry h hs
  obtain ⟨a, r, rfl, g, q⟩ := h
  obtain rfl : v = Value.ref a := rx
  exact tail_any (dict_typeIs I g) PySem.F.slot_dict_getitem.lookup (d_getItem hu I g ry fun w' s3 I3 rw' => ⟨r, H, I3, rw', q⟩) hs
theorem rep_key {K : Kw} {H G : Hp} {α : Al} {d : D} {k : Key} {v : V} (h : keyD d = some k) (r : RepB K H G α d v) : v = kV k := by
  cases d with
  | int i => cases h; rw [repB_int r]; rfl
  | str x => cases h; rw [repB_str r]; rfl
  | _ => cases h
def rIxA (X : Cx) : R2 := fun x y H Q => rIx X.K x y H Q ∨ (fun x y H Q => rIxD X.K X.w x y H Q ∨ rIxG X x y H Q) x y H Q
theorem ix_or (hu : X.A.units + 1 < cLine) : IxR X (rIxA X) := IxR.or ix_seq (IxR.or ix_kdict (ix_dct hu))
theorem kd_get {K : Kw} {G : Hp} {α : Al} : ∀ {ks vs : List D} {es : List DictEntry} {xs : List V} {x : Str} {d : D}, KdKeys ks es → RepL K G α vs xs → Vals xs (es.map (·.val)) → kdGet ks vs x = some d →
    ∃ (e : DictEntry) (v : V), es.find? (fun d => d.key.isStr x) = some e ∧ L2.RelV v e.val ∧ Rep K G α d v
  | [], vs, es, xs, x, d, h, r, z, e => by unfold kdGet at e; cases e
  | k :: ks, [], es, xs, x, d, h, r, z, e => by cases k <;> (unfold kdGet at e; cases e)
  | k :: ks, v :: vs, es, xs, x, d, h, r, z, e => by
    unfold KdKeys at h
    obtain ⟨e0, l, y, t, rfl, rfl, hk, h⟩ := h
    unfold RepL at r
    obtain ⟨v0, xs', rfl, r1, r2⟩ := r
    cases z with
    | cons z1 z2 =>
      unfold kdGet at e
      have his : e0.key.isStr x = (y == x) := by rw [hk]; rfl
      by_cases q : y = x
      · subst q
        rw [if_pos rfl] at e
        cases e
        exact ⟨e0, v0, List.find?_cons_of_pos (by rw [his]; simp), z1, r1⟩
      · rw [if_neg q] at e
        obtain ⟨e1, v1, a1, a3, a4⟩ := kd_get h r2 z2 e
        exact ⟨e1, v1, by rw [List.find?_cons_of_neg (by rw [his]; simpa using q)]; exact a1, a3, a4⟩
theorem ix_f : OpF X F (rIxA X) ixD := by
  refine ⟨fun ρ G α σ H v u Q a b d w ra rb e q => ?_⟩
  unfold ixD at e
  split at e
  · obtain rfl := repB_int rb
    obtain ⟨p, xs, rfl, h1, r⟩ := ra
    obtain ⟨x, h2, r2⟩ := atD_ok r e
    exact .inl (.inl ⟨p, xs, _, x, rfl, rfl, SqL.of h1, h2, q x H G α w Ext.refl (TRep.of r2)⟩)
  · obtain rfl := repB_int rb
    obtain ⟨p, xs, rfl, h1, r⟩ := repB_tup ra
    obtain ⟨x, h2, r2⟩ := atD_ok r e
    exact .inl (.inr (.inl ⟨p, xs, _, x, rfl, rfl, SqT.sub h1 w.sub, h2, q x H G α w Ext.refl (TRep.of r2)⟩))
  · obtain rfl := repB_int rb
    have ra : Rep (kw X) G α (.scr _) v := ra
    unfold Rep at ra
    obtain ⟨p, xs, rfl, h1, r⟩ := ra
    obtain ⟨x, h2, r2⟩ := atD_ok r e
    exact .inl (.inl ⟨p, xs, _, x, rfl, rfl, SqL.sub h1 w.sub, h2, q x H G α w Ext.refl (TRep.of r2)⟩)
  · obtain rfl := repB_int rb
    obtain rfl := repB_str ra
    split at e
    · rename_i x i hz
      cases ej : (ixN x.cps.toList.length i).bind fun j => x.cps.toList[j]? with
      | none => rw [ej] at e; cases e
      | some c =>
        rw [ej] at e
        cases e
        exact .inl (.inr (.inr ⟨x, i, c, rfl, rfl, hz, ej, q.str w⟩))
    · cases e
  · obtain rfl := repB_str rb
    rename_i ks vs x
    have ra : Rep (kw X) G α (.kd ks vs) v := ra
    unfold Rep at ra
    obtain ⟨p, es, n, xs, rfl, kd, hk, r, z⟩ := ra
    obtain ⟨e1, v1, a1, a3, a4⟩ := kd_get hk r z e
    refine .inr (.inl ⟨p, x, v1, rfl, rfl, ⟨es, n, e1.val, kd.at_, kd.lit, ?_, a3⟩, q v1 H G α w Ext.refl (TRep.of a4)⟩)
    unfold PySem.W.nsIn
    rw [kd.at_]
    dsimp only
    rw [a1]
  · rename_i ks vs
    cases e1 : keyD b with
    | none => rw [e1] at e; cases e
    | some k =>
      rw [e1] at e
      cases e2 : keysD ks with
      | none => rw [e2] at e; cases e
      | some kk =>
        rw [e2] at e
        obtain rfl := rep_key e1 rb
        obtain ⟨p, xs, rfl, r, l, s⟩ := ra
        obtain ⟨kk', e3, s⟩ := s
        rw [e2] at e3; cases e3
        obtain ⟨x, h1, r1⟩ := (dctGet_ok e2 r l).1 d e
        exact .inr (.inr ⟨p, x, rfl, .inl ⟨_, k, .inl s, rfl, h1.symm⟩, q x H G α w Ext.refl (TRep.of r1)⟩)
  · cases e
theorem pd_ix (hu : X.A.units + 1 < cLine) (ha : PD X F Wx a ma) (hb : PD X F Wx b mb) (hs : PlainIx b) : PD X F Wx (.Subscript a b pos) (do let x ← ma; let y ← mb; op2 ixD x y) :=
  PE.imp' (pe_ix (ix_or hu) ha hb hs) fun σ H Q ⟨ρ, G, α, w, h⟩ => stepE PV.anti w h fun x ρ1 v H1 G1 α1 w1 x1 r1 h1 => stepE PV.anti w1 h1 fun y ρ2 u H2 G2 α2 w2 x2 r2 h2 =>
    ix_f.all w2 (TRep.ext x2 r1) r2 h2
end
end BZ
end
section
set_option Elab.async false
set_option linter.all false
set_option maxRecDepth 100000
set_option maxHeartbeats 1000000
namespace BZ
open PySem PySem.Spec PyProof.Rows L2

section
variable {X : Cx} {F : Frm} {Wx : WX} {e a b c tg iter elt o : Expr} {es : List Expr} {pos p tpos apos cpos p2 : Pos} {ma mb mc mo : M D} {mf : M S} {ms : M (List D)} {sts : List Stmt}
/-! ## slices -/
def PPO (X : Cx) (F : Frm) (σ : L2.St) (Q : Option Int → Hp → Prop) : PP (Option Int) := fun b ρ G α => ∀ H' G' α', W (kw X) F ρ G' α' σ H' → Ext G α G' α' → Q b H'
theorem PPO.anti {X : Cx} {F : Frm} {σ : L2.St} {Q : Option Int → Hp → Prop} : Anti (PPO X F σ Q) := fun b ρ G α G' α' x h H1 G1 α1 w y => h H1 G1 α1 w (x.trans y)
def trO (X : Cx) (F : Frm) (Wx : WX) (m : M (Option Int)) : TO := fun σ H Q => ∃ ρ G α, W (kw X) F ρ G α σ H ∧ okR (PPO X F σ Q) (PZ X F Wx σ) G α (m ρ)
abbrev PDO (X : Cx) (F : Frm) (Wx : WX) (e : Option Expr) (m : M (Option Int)) : Prop := PO X e (trO X F Wx m)
theorem PO.imp' {t t' : TO} {e : Option Expr} (h : PO X e t) (i : ∀ σ H Q, t' σ H Q → t σ H Q) : PO X e t' := ⟨fun pins s σ H Q I q => h.run pins s σ H Q I (i σ H Q q)⟩
def asI (d : D) : M (Option Int) := fun ρ => match d with
  | .int i => .ok (some i) ρ
  | _ => .no
theorem pdo_none : PDO X F Wx none (ret none) := PO.imp' po_none fun σ H Q ⟨ρ, G, α, w, h⟩ => h H G α w Ext.refl
theorem pdo_some (ha : PD X F Wx a ma) : PDO X F Wx (some a) (ma >>= asI) := PO.imp' (po_some ha) fun σ H Q ⟨ρ, G, α, w, h⟩ => stepE PPO.anti w h fun x ρ1 v H1 G1 α1 w1 x1 r1 h1 => by
  unfold asI at h1
  split at h1
  · exact ⟨_, trep_int r1, h1 H1 G1 α1 w1 Ext.refl⟩
  · exact h1.elim
theorem stepO {γ : Type} {P : PP γ} {m : M (Option Int)} {f : Option Int → M γ} {ρ : E} {G H : Hp} {α : Al} {σ : L2.St} {Q : Option Int → Hp → Prop} (hP : Anti P) (w : W (kw X) F ρ G α σ H) (h : okR P (PZ X F Wx σ) G α ((m >>= f) ρ))
    (k : ∀ d ρ' H' G' α', W (kw X) F ρ' G' α' σ H' → Ext G α G' α' → okR P (PZ X F Wx σ) G' α' (f d ρ') → Q d H') : trO X F Wx m σ H Q :=
  ⟨ρ, G, α, w, h.bind.imp fun d ρ' q H' G' α' w' x => k d ρ' H' G' α' w' x (q.ext hP PZ.anti x)⟩
def cutD (l : List D) (lo hi : Option Int) : List D := (l.drop (HT.sIx l.length 0 lo)).take (HT.sIx l.length l.length hi - HT.sIx l.length 0 lo)
def slD (x : D) (lo hi : Option Int) : M D := fun ρ => match deref ρ x with
  | some (.lst l) => .ok (.lst (cutD l lo hi)) ρ
  | some (.tup l) => .ok (.tup (cutD l lo hi)) ρ
  | some (.scr l) => .ok (.lst (cutD l lo hi)) ρ
  | some (.str x) => if x.length ≤ 16777216 then .ok (.str (cutS x lo hi)) ρ else .no
  | _ => .no
theorem cut_rep {K : Kw} {G : Hp} {α : Al} {l : List D} {xs : List V} {lo hi : Option Int} (r : RepL K G α l xs) : RepL K G α (cutD l lo hi) (cutV xs lo hi) := by
  unfold cutD cutV
  rw [← r.length]
  exact RepL.take _ (RepL.drop _ r)
def rSlB (X : Cx) : V → Option Int → Option Int → Hp → VK → Prop := fun x lo hi H Q => rSlL X.K x lo hi H Q ∨ (fun x lo hi H Q => rSlA X.K x lo hi H Q ∨ rSlS x lo hi H Q) x lo hi H Q
theorem sl_or : SlR X (rSlB X) := SlR.or sl_list (SlR.or sl_tupA sl_str)
theorem cut_all {l : List D} {lo hi : Option Int} (h : HT.sIx l.length 0 lo = 0 ∧ HT.sIx l.length l.length hi = l.length) : cutD l lo hi = l := by
  unfold cutD
  rw [h.1, h.2]
  simp
theorem pd_slice {lo hi : Option Expr} {ml mh : M (Option Int)} (ha : PD X F Wx a ma) (hl : PDO X F Wx lo ml) (hh : PDO X F Wx hi mh) : PD X F Wx (.Subscript a (.Slice lo hi none p2) pos) (do let x ← ma; let l ← ml; let u ← mh; slD x l u) :=
  PE.imp' (pe_slice sl_or ha hl hh) fun σ H Q ⟨ρ, G, α, w, h⟩ => stepE PV.anti w h fun x ρ1 v H1 G1 α1 w1 x1 r1 h1 => stepO PV.anti w1 h1 fun lo ρ2 H2 G2 α2 w2 x2 h2 => stepO PV.anti w2 h2 fun hi ρ3 H3 G3 α3 w3 x3 q => by
    have r3 := TRep.ext (x2.trans x3) r1
    unfold slD at q
    cases e : deref ρ3 x with
    | none => rw [e] at q; exact q.elim
    | some d =>
      rw [e] at q
      have r := w3.look r3 e
      cases d with
      | lst l =>
        obtain ⟨a, xs, rfl, h1, r⟩ := r
        exact .inl ⟨a, xs, rfl, SqL.of h1, PV.newL q w3 (cut_rep r)⟩
      | scr l =>
        have r : Rep (kw X) G3 α3 (.scr l) v := r
        unfold Rep at r
        obtain ⟨a, xs, rfl, h1, r⟩ := r
        exact .inl ⟨a, xs, rfl, SqL.sub h1 w3.sub, PV.newL q w3 (cut_rep r)⟩
      | tup l =>
        obtain ⟨a, xs, rfl, h1, r⟩ := repB_tup r
        refine .inr (.inl ⟨a, xs, rfl, SqT.sub h1 w3.sub, fun z => ?_, fun _ => PV.newT q w3 (cut_rep r)⟩)
        rw [r.length] at z
        have q : PV X F σ Q (.tup (cutD l lo hi)) ρ3 G3 α3 := q
        rw [cut_all z] at q
        refine q _ H3 G3 α3 w3 Ext.refl ?_
        show Rep _ _ _ _ _
        unfold Rep
        exact ⟨a, xs, rfl, h1, r⟩
      | str z =>
        dsimp only at q
        split at q
        · rename_i hz
          obtain rfl := repB_str r
          exact .inr (.inr ⟨z, rfl, hz, q.str w3⟩)
        · exact q.elim
      | _ => exact q.elim

/-! ## methods -/
def opM (f : D → List D → Option D) (x : D) (xs : List D) : M D := fun ρ => match deref ρ x, derefs ρ xs with
  | some a, some as => (match f a as with
    | some d => .ok d ρ
    | none => .no)
  | _, _ => .no
theorem opM_ok {f : D → List D → Option D} {x : D} {xs : List D} {ρ : E} {P : PP D} {Z : PP Exn} {G : Hp} {α : Al} (h : okR P Z G α (opM f x xs ρ)) : ∃ a as d, deref ρ x = some a ∧ derefs ρ xs = some as ∧ f a as = some d ∧ P d ρ G α := by
  unfold opM at h
  cases e0 : deref ρ x with
  | none => rw [e0] at h; exact h.elim
  | some a =>
    cases e1 : derefs ρ xs with
    | none => rw [e0, e1] at h; exact h.elim
    | some as =>
      rw [e0, e1] at h
      dsimp only at h
      cases e3 : f a as with
      | none => rw [e3] at h; exact h.elim
      | some d => rw [e3] at h; exact ⟨a, as, d, rfl, rfl, e3, h⟩
structure MetF (X : Cx) (F : Frm) (T : String) (r : V → List V → Hp → VK → Prop) (f : D → List D → Option D) : Prop where
  run : ∀ (ρ : E) (G : Hp) (α : Al) (σ : L2.St) (H : Hp) (v : V) (vs : List V) (Q : VK) (a : D) (as : List D) (d : D), W (kw X) F ρ G α σ H → RepB (kw X) H G α a v → Paired (fun d v => RepB (kw X) H G α d v) as vs → f a as = some d → PV X F σ Q d ρ G α → r v vs H Q
/-- the value the method is called of: kept plain, or an own list; its type told ahead -/
def tyD (T : String) : D → Bool
  | .str _ => T == "str"
  | .lst _ => T == "list"
  | .dct _ _ => T == "dict"
  | _ => false
def kindOk (T : String) (x : D) : M Unit := fun ρ => match deref ρ x with
  | some d => if tyD T d then .ok () ρ else .no
  | none => .no
theorem kind_ok {T : String} {x : D} {v : V} {ρ : E} {σ : L2.St} {G H : Hp} {α : Al} {γ : Type} {P : PP γ} {Z : PP Exn} {f : Unit → M γ} (w : W (kw X) F ρ G α σ H) (r : TRep (kw X) σ G α x v) (h : okR P Z G α ((kindOk T x >>= f) ρ)) (hT : T = "str" ∨ T = "list") : tyV X.K T v H ∧ okR P Z G α (f () ρ) := by
  have h := h.bind
  unfold kindOk at h
  cases e : deref ρ x with
  | none => rw [e] at h; exact h.elim
  | some d =>
    rw [e] at h
    dsimp only at h
    have rb := w.look r e
    cases q : tyD T d with
    | false => rw [q, if_neg (by simp)] at h; exact h.elim
    | true =>
      rw [q, if_pos rfl] at h
      refine ⟨?_, h⟩
      cases d with
      | str z =>
        obtain rfl := repB_str rb
        unfold tyD at q
        exact eq_of_beq q
      | lst l =>
        obtain ⟨a, xs, rfl, h1, _⟩ := rb
        unfold tyD at q
        exact .inl ⟨eq_of_beq q, xs, SqL.of h1⟩
      | dct ks vs =>
        unfold tyD at q
        have q := eq_of_beq q
        rcases hT with z | z
        · rw [z] at q; exact absurd q (by decide)
        · rw [z] at q; exact absurd q (by decide)
      | _ => exact absurd q (by simp [tyD])
variable {name : Str} {T id : String} {r : V → List V → Hp → VK → Prop} {f : D → List D → Option D}
theorem pd_meth (hT : T = "str" ∨ T = "list") (hpa : PlainAttrs T) (slot : Slot T name id) (hty : typeOf (.builtin id) = pure (.type "method_descriptor")) (hm : MtR X id r) (hf : MetF X F T r f) (ho : PD X F Wx o mo) (ha : PDA X F Wx (e :: es) ms)
    (h1 : attributeBase o name X.env (eval o X.env) = eval o X.env := by rfl)
    (h2 : ((((backTo cpos (starEach (e :: es) X.env)).all fun x => !x.fst) && (backToKw cpos (keywordEach [] X.env)).all fun x => x.fst.isSome) && decide (((e :: es).length + ([] : List Keyword).length + if ([] : List Keyword).isEmpty = true then 0 else 1) < 30)) = true := by rfl)
    (h3 : (apos.endLine == cpos.line) = true := by rfl) (h4 : starEach (e :: es) X.env = (false, eval e X.env) :: starEach es X.env := by rfl) (h5 : ((backTo cpos (starEach es X.env)).any fun x => x.fst) = false := by rfl) :
    PD X F Wx (.Call (.Attribute o name apos) (e :: es) [] cpos) (do let x ← mo; kindOk T x; let xs ← ms; opM f x xs) :=
  PE.imp' (pe_bm hpa slot hty hm ho ha h1 h2 h3 h4 h5) fun σ H Q ⟨ρ, G, α, w, h⟩ => stepE PV.anti w h fun x ρ1 v H1 G1 α1 w1 x1 r1 h1 => by
    obtain ⟨ht, h1⟩ := kind_ok w1 r1 h1 hT
    refine ⟨ht, stepA PV.anti w1 h1 fun xs ρ2 vs H2 G2 α2 w2 x2 r2 h2 => ?_⟩
    obtain ⟨a, as, d, e1, e2, e3, q⟩ := opM_ok h2
    exact hf.run ρ2 G2 α2 σ H2 v vs Q a as d w2 (w2.look (TRep.ext x2 r1) e1) (w2.looks r2 e2) e3 q
/-- join -/
def strsD : List D → Option (List Str)
  | [] => some []
  | .str x :: l => (strsD l).map (x :: ·)
  | _ => none
theorem strsD_ok {K : Kw} {G : Hp} {α : Al} : ∀ {l : List D} {ys : List Str} {xs : List V}, strsD l = some ys → RepL K G α l xs → xs = ys.map V.str
  | [], ys, xs, h, r => by
    unfold strsD at h
    cases h
    unfold RepL at r
    exact r
  | d :: l, ys, xs, h, r => by
    unfold RepL at r
    obtain ⟨x, r0, rfl, r1, r2⟩ := r
    cases d with
    | str z =>
      unfold strsD at h
      cases e : strsD l with
      | none => rw [e] at h; cases h
      | some ys' =>
        rw [e] at h
        cases h
        unfold Rep at r1
        rw [r1, strsD_ok e r2]
        rfl
    | _ => unfold strsD at h; cases h
def joinD : D → List D → Option D
  | .str a, [.lst l] => (match strsD l with
    | some ys => if (ys.map (·.length)).sum + ys.length * a.length ≤ 16777216 then some (.str (Txt.join a ys)) else none
    | none => none)
  | .str a, [.tup l] => (match strsD l with
    | some ys => if (ys.map (·.length)).sum + ys.length * a.length ≤ 16777216 then some (.str (Txt.join a ys)) else none
    | none => none)
  | _, _ => none
theorem join_f : MetF X F "str" (fun x xs H Q => ∃ a p, ∃ ys : List Str, x = .str a ∧ xs = [.ref p] ∧ (SqL X.K H p (ys.map V.str) ∨ SqT X.K H p (ys.map V.str)) ∧ (ys.map (·.length)).sum + ys.length * a.length ≤ 16777216 ∧ Q (.str (Txt.join a ys)) H) joinD := by
  refine ⟨fun ρ G α σ H v vs Q a as d w ra rs e q => ?_⟩
  unfold joinD at e
  split at e
  · obtain rfl := repB_str ra
    obtain ⟨u, rfl, r⟩ := one_of rs
    split at e
    · rename_i ys hys
      split at e
      · rename_i hz
        cases e
        obtain ⟨p, xs, rfl, h1, r⟩ := r
        exact ⟨_, p, ys, rfl, rfl, .inl (by rw [← strsD_ok hys r]; exact SqL.of h1), hz, q.str w⟩
      · cases e
    · cases e
  · obtain rfl := repB_str ra
    obtain ⟨u, rfl, r⟩ := one_of rs
    split at e
    · rename_i ys hys
      split at e
      · rename_i hz
        cases e
        obtain ⟨p, xs, rfl, h1, r⟩ := repB_tup r
        exact ⟨_, p, ys, rfl, rfl, .inr (by rw [← strsD_ok hys r]; exact SqT.sub h1 w.sub), hz, q.str w⟩
      · cases e
    · cases e
  · cases e
/-! ## stores -/
/-- xs.append(e), xs a local with a list of its own -/
def appS (i : Nat) (m : M D) : SM := fun ρ => match ρ.sl[i]? with
  | some (.own (.lst _)) => (match m ρ with
    | .ok d ρ1 => (match ρ1.sl[i]? with
      | some (.own (.lst l)) => if d.plain && decide (l.length < 16777216) then .nx (ρ1.set i (.own (.lst (l ++ [d])))) else .no
      | _ => .no)
    | .ex x ρ1 => .ex x ρ1
    | .no => .no)
  | _ => .no
theorem psd_append {i : Nat} {x : Str} (hx : PE X (.Name x p) (tVar i)) (ha : PD X F Wx a ma)
    (h1 : attributeBase (.Name x p) "append" X.env (eval (.Name x p) X.env) = eval (.Name x p) X.env := by rfl)
    (h2 : ((((backTo cpos (starEach [a] X.env)).all fun x => !x.fst) && (backToKw cpos (keywordEach [] X.env)).all fun x => x.fst.isSome) && decide (([a].length + ([] : List Keyword).length + if ([] : List Keyword).isEmpty = true then 0 else 1) < 30)) = true := by rfl)
    (h3 : (apos.endLine == cpos.line) = true := by rfl) (h4 : starEach [a] X.env = (false, eval a X.env) :: starEach [] X.env := by rfl) (h5 : ((backTo cpos (starEach [] X.env)).any fun x => x.fst) = false := by rfl)
    (hs : swapsWith (.Call (.Attribute (.Name x p) "append" apos) [a] [] cpos) none pos.line X.env = pure false := by rfl) :
    PSD X F Wx (.Expr (.Call (.Attribute (.Name x p) "append" apos) [a] [] cpos) pos) (appS i ma) :=
  PS.imp' (ps_expr (pe_bm PySem.F.plainAttrs_list PySem.F.slot_list_append PySem.F.type_list_append mt_append hx (pa_cons ha pa_nil h4) h1 h2 h3 h4 h5) hs) fun Z σ H ⟨ρ, G, α, w, h⟩ => by
    unfold appS at h
    split at h
    · rename_i l0 e0
      obtain ⟨a0, k1, k2, k3, k4, k5⟩ := w.own i _ e0
      obtain ⟨xs0, k6, k7⟩ := k2
      refine ⟨_, k1, .inl ⟨rfl, xs0, SqL.of k6⟩, ρ, G, α, w, ?_⟩
      cases em : ma ρ with
      | no => rw [em] at h; exact h.elim
      | ex x ρ1 => rw [em] at h; exact fun c d H1 G1 α1 w1 y r => h c d σ H1 G1 α1 w1 y r
      | ok d ρ1 =>
        rw [em] at h
        intro v H1 G1 α1 w1 x1 r1
        dsimp only at h
        split at h
        · rename_i l e1
          split at h
          · rename_i hp
            have hp' : d.plain = true ∧ l.length < 16777216 := by simpa using hp
            obtain ⟨a1, j1, j2, j3, j4, j5⟩ := w1.own i _ e1
            rw [k1] at j1; cases j1
            obtain ⟨xs, j6, j7⟩ := j2
            refine ⟨a0, xs, v, rfl, rfl, j6, by rw [j7.length]; exact hp'.2, ?_⟩
            have r2 := r1.plain hp'.1
            exact h σ _ G1 α1 (w1.write e1 k1 ⟨xs ++ [v], upd_same, RepL.append j7 (RepL.cons r2 RepL.nil)⟩) x1
          · exact h.elim
        · exact h.elim
    · exact h.elim
end
end BZ
end
section
set_option Elab.async false
set_option linter.all false
set_option maxRecDepth 100000
set_option maxHeartbeats 1000000
namespace BZ
open PySem PySem.Spec PyProof.Rows L2

section
variable {X : Cx} {F : Frm} {Wx : WX} {e a b c tg iter elt o : Expr} {es : List Expr} {pos p tpos apos cpos p2 : Pos} {ma mb mc mo : M D} {mf : M S} {ms : M (List D)} {sts : List Stmt}
/-! ## isinstance -/
def tyN : D → Option String
  | .non => some "NoneType"
  | .bl _ => some "bool"
  | .int _ => some "int"
  | .str _ => some "str"
  | .tup _ => some "tuple"
  | .lst _ => some "list"
  | .scr _ => some "list"
  | .dct _ _ => some "dict"
  | .kd _ _ => some "dict"
  | _ => none
theorem tyX_of {H G : Hp} {α : Al} {d : D} {v : V} {T : String} (s : ∀ a o, G a = some o → H a = some o) (h : tyN d = some T) (r : RepB (kw X) H G α d v) : TyX X.K H v (.type T) := by
  cases d with
  | non => cases h; rw [repB_non r]; exact .base .non
  | bl b => cases h; rw [repB_bl r]; exact .base (.bl b)
  | int b => cases h; rw [repB_int r]; exact .base (.int b)
  | str b => cases h; rw [repB_str r]; exact .base (.str b)
  | tup l =>
    cases h
    obtain ⟨a, xs, rfl, h1, _⟩ := repB_tup r
    rcases SqT.sub h1 s with h | h
    · rcases h with h | ⟨o, h⟩
      · exact .base (.tup h)
      · exact .fTuple h
    · obtain ⟨o, _, _, hl, hc, _⟩ := h
      exact .kTuple hl hc
  | lst l =>
    cases h
    obtain ⟨a, xs, rfl, h1, _⟩ := r
    exact .base (.lst h1)
  | scr l =>
    cases h
    have r : Rep (kw X) G α (.scr l) v := r
    unfold Rep at r
    obtain ⟨a, xs, rfl, h1, _⟩ := r
    rcases SqL.sub h1 s with h | h
    · rcases h with h | ⟨o, h⟩
      · exact .base (.lst h)
      · exact .base (.frz h)
    · obtain ⟨o, _, _, hl, hc, _⟩ := h
      exact .kList hl hc
  | dct ks vs =>
    cases h
    obtain ⟨a, xs, rfl, _, _, h⟩ := r
    obtain ⟨kk, _, h⟩ := h
    exact .base (.dK h)
  | kd ks vs =>
    cases h
    have r : Rep (kw X) G α (.kd ks vs) v := r
    unfold Rep at r
    obtain ⟨a, es, n, xs, rfl, kd, _⟩ := r
    exact .kDict kd.at_ rfl
  | _ => cases h
def tys : List String := ["NoneType", "bool", "int", "str", "tuple", "list", "dict"]
def isiB (t T : String) : Bool := t == T || (t == "bool" && T == "int")
theorem kit_tys : ∀ t ∈ tys, ∀ T ∈ tys, kitB t T = some (isiB t T) := by decide +kernel
theorem tyN_mem {d : D} {T : String} (h : tyN d = some T) : T ∈ tys := by
  cases d <;> cases h <;> decide
def isiD (T : String) (d : D) : Option D := match tyN d with
  | some t => some (.bl (isiB t T))
  | none => none
theorem pd_isi {T : Str} {tn : String} (hg : Gl X "isinstance") (hm : X.mg "isinstance" = none) (hgT : Gl X T) (hmT : X.mg T = none) (hvT : bootBuiltins T = some (.type tn)) (ht : tn ∈ tys) (ha : PD X F Wx a ma) (hn : T ≠ "__name__" := by decide) (hd : (T == ("__debug__" : Str)) = false := by decide)
    (he : starEach [a, .Name T p2] X.env = (false, eval a X.env) :: starEach [.Name T p2] X.env := by rfl) (he2 : starEach [.Name T p2] X.env = (false, eval (.Name T p2) X.env) :: starEach [] X.env := by rfl) (hpl : (backTo pos (starEach [.Name T p2] X.env)).any (·.1) = false := by rfl) :
    PD X F Wx (.Call (.Name "isinstance" p) [a, .Name T p2] [] pos) (do let x ← ma; op1 (isiD tn) x) :=
  PE.imp' (pe_callB call_isi hg hm (show bootBuiltins "isinstance" = some (.builtin "isinstance") from rfl) (pa_cons ha (pa_cons (pe_bltn (v := V.ty tn) hgT hmT hvT rfl hn hd) pa_nil he2) he) (by decide) (by decide) he hpl) fun σ H Q ⟨ρ, G, α, w, h⟩ =>
    stepE PV.anti w h fun x ρ1 v H1 G1 α1 w1 x1 r1 h1 => by
      obtain ⟨d, k, e1, e2, q⟩ := op1_ok h1
      unfold isiD at e2
      cases e3 : tyN d with
      | none => rw [e3] at e2; cases e2
      | some t =>
        rw [e3] at e2
        cases e2
        exact ⟨v, .ty tn, .type t, .type tn, isiB t tn, rfl, .ty tn, tyX_of w1.sub e3 (w1.look r1 e1), kit_ty (kit_tys t (tyN_mem e3) tn ht), q.bl w1⟩
/-! ## list, tuple, dict of a list -/
def listD : List D → Option D
  | [.lst l] => some (.lst l)
  | [.tup l] => some (.lst l)
  | [.scr l] => some (.lst l)
  | _ => none
theorem list_f : CallF X F (fun xs H Q => ∃ p ys, xs = [.ref p] ∧ (SqL X.K H p ys ∨ SqT X.K H p ys) ∧ ∀ l, H l = none → Q (.ref l) (upd H l (.lst ys))) listD := by
  refine ⟨fun ρ G α σ H vs Q as d w r e q => ?_⟩
  unfold listD at e
  split at e
  · cases e
    obtain ⟨v, rfl, rv⟩ := one_of r
    obtain ⟨a, xs, rfl, h1, r1⟩ := rv
    exact ⟨a, xs, rfl, .inl (SqL.of h1), q.newL w r1⟩
  · cases e
    obtain ⟨v, rfl, rv⟩ := one_of r
    obtain ⟨a, xs, rfl, h1, r1⟩ := repB_tup rv
    exact ⟨a, xs, rfl, .inr (SqT.sub h1 w.sub), q.newL w r1⟩
  · cases e
    obtain ⟨v, rfl, rv⟩ := one_of r
    have rv : Rep (kw X) G α (.scr _) v := rv
    unfold Rep at rv
    obtain ⟨a, xs, rfl, h1, r1⟩ := rv
    exact ⟨a, xs, rfl, .inl (SqL.sub h1 w.sub), q.newL w r1⟩
  · cases e
def tupleD : List D → Option D
  | [.lst l] => some (.tup l)
  | [.tup l] => some (.tup l)
  | [.scr l] => some (.tup l)
  | _ => none
theorem tuple_f : CallF X F (fun xs H Q => ∃ p ys, xs = [.ref p] ∧ ((SqL X.K H p ys ∧ ∀ l, H l = none → Q (.ref l) (upd H l (.tup ys))) ∨ (SqT X.K H p ys ∧ Q (.ref p) H))) tupleD := by
  refine ⟨fun ρ G α σ H vs Q as d w r e q => ?_⟩
  unfold tupleD at e
  split at e
  · cases e
    obtain ⟨v, rfl, rv⟩ := one_of r
    obtain ⟨a, xs, rfl, h1, r1⟩ := rv
    exact ⟨a, xs, rfl, .inl ⟨SqL.of h1, q.newT w r1⟩⟩
  · cases e
    obtain ⟨v, rfl, rv⟩ := one_of r
    obtain ⟨a, xs, rfl, h1, r1⟩ := repB_tup rv
    refine ⟨a, xs, rfl, .inr ⟨SqT.sub h1 w.sub, q _ H G α w Ext.refl ?_⟩⟩
    show Rep _ _ _ _ _
    unfold Rep
    exact ⟨a, xs, rfl, h1, r1⟩
  · cases e
    obtain ⟨v, rfl, rv⟩ := one_of r
    have rv : Rep (kw X) G α (.scr _) v := rv
    unfold Rep at rv
    obtain ⟨a, xs, rfl, h1, r1⟩ := rv
    exact ⟨a, xs, rfl, .inl ⟨SqL.sub h1 w.sub, q.newT w r1⟩⟩
  · cases e
end
end BZ
end
section
set_option Elab.async false
set_option linter.all false
set_option maxRecDepth 100000
set_option maxHeartbeats 1000000
namespace BZ
open PySem PySem.Spec PyProof.Rows L2

/-! ## dicts -/
def dctPut (ks vs : List D) (k d : D) : List D × List D :=
  if ks.any (fun j => decide (keyD j = keyD k)) then (ks, (ks.zip vs).map fun p => if keyD p.1 = keyD k then d else p.2) else (ks ++ [k], vs ++ [d])
theorem keysD_app {ks : List D} {kk : List Key} {k : D} {κ : Key} (h : keysD ks = some kk) (hk : keyD k = some κ) : keysD (ks ++ [k]) = some (kk ++ [κ]) := by
  induction ks generalizing kk with
  | nil => unfold keysD at h; cases h; simp [keysD, hk]
  | cons d ks ih =>
    obtain ⟨k0, r, h1, h2, rfl⟩ := keysD_cons h
    show keysD (d :: (ks ++ [k])) = _
    unfold keysD
    rw [h1, ih h2]
    rfl
theorem keysD_len {ks : List D} {kk : List Key} (h : keysD ks = some kk) : kk.length = ks.length := by
  induction ks generalizing kk with
  | nil => unfold keysD at h; cases h; rfl
  | cons d ks ih =>
    obtain ⟨k0, r, h1, h2, rfl⟩ := keysD_cons h
    rw [List.length_cons, List.length_cons, ih h2]
theorem any_keys {ks : List D} {kk : List Key} {xs : List V} {k : D} {κ : Key} (h : keysD ks = some kk) (hk : keyD k = some κ) (hl : xs.length = ks.length) :
    (kk.zip xs).any (fun kv => decide (kv.1 = κ)) = ks.any (fun j => decide (keyD j = keyD k)) := by
  induction ks generalizing kk xs with
  | nil => unfold keysD at h; cases h; rfl
  | cons d ks ih =>
    obtain ⟨k0, r, h1, h2, rfl⟩ := keysD_cons h
    cases xs with
    | nil => cases hl
    | cons x xs =>
      show ((k0, x) :: r.zip xs).any _ = _
      rw [List.any_cons, List.any_cons, ih h2 (by simpa using hl), h1, hk]
      congr 1
      simp
theorem mput_rep {K : Kw} {G : Hp} {α : Al} {k d : D} {κ : Key} {v : V} (hk : keyD k = some κ) (rd : Rep K G α d v) : ∀ {ks vs : List D} {kk : List Key} {xs : List V}, keysD ks = some kk → RepL K G α vs xs → xs.length = ks.length →
    RepL K G α ((ks.zip vs).map fun p => if keyD p.1 = keyD k then d else p.2) ((kk.zip xs).map fun kv => if kv.1 = κ then v else kv.2)
  | [], vs, kk, xs, h, r, hl => by unfold keysD at h; cases h; exact RepL.nil
  | d0 :: ks, vs, kk, xs, h, r, hl => by
    obtain ⟨k0, r0, h1, h2, rfl⟩ := keysD_cons h
    cases vs with
    | nil => unfold RepL at r; subst r; cases hl
    | cons v0 vs =>
      unfold RepL at r
      obtain ⟨x, xs', rfl, r1, r2⟩ := r
      refine RepL.cons ?_ (mput_rep hk rd h2 r2 (by simpa using hl))
      dsimp only
      rw [h1, hk]
      by_cases q : k0 = κ
      · simp [q]; exact rd
      · simp [q]; exact r1
theorem mput_zip {κ : Key} {v : V} : ∀ {ks : List D} {kk : List Key} {xs : List V}, keysD ks = some kk → xs.length = ks.length → kk.zip ((kk.zip xs).map fun kv => if kv.1 = κ then v else kv.2) = (kk.zip xs).map fun kv => if kv.1 = κ then (kv.1, v) else kv
  | [], kk, xs, h, hl => by unfold keysD at h; cases h; rfl
  | d0 :: ks, kk, xs, h, hl => by
    obtain ⟨k0, r0, h1, h2, rfl⟩ := keysD_cons h
    cases xs with
    | nil => cases hl
    | cons x xs =>
      have ih := mput_zip (κ := κ) (v := v) h2 (show xs.length = ks.length by simpa using hl)
      rw [List.zip_cons_cons, List.map_cons, List.map_cons, List.zip_cons_cons, ih]
      by_cases q : k0 = κ <;> simp [q]
theorem put_ok {K : Kw} {G : Hp} {α : Al} {ks vs : List D} {kk : List Key} {xs : List V} {k d : D} {κ : Key} {v : V} (h : keysD ks = some kk) (r : RepL K G α vs xs) (hl : xs.length = ks.length) (hk : keyD k = some κ) (rd : Rep K G α d v) :
    ∃ kk' xs', keysD (dctPut ks vs k d).1 = some kk' ∧ RepL K G α (dctPut ks vs k d).2 xs' ∧ xs'.length = (dctPut ks vs k d).1.length ∧ kk'.zip xs' = putK (kk.zip xs) κ v := by
  unfold dctPut putK
  rw [any_keys h hk hl]
  split
  · exact ⟨kk, (kk.zip xs).map fun kv => if kv.1 = κ then v else kv.2, h, mput_rep hk rd h r hl, by simp [keysD_len h, hl], mput_zip h hl⟩
  · refine ⟨kk ++ [κ], xs ++ [v], keysD_app h hk, RepL.append r (RepL.cons rd RepL.nil), by simp [hl], ?_⟩
    rw [List.zip_append (by rw [keysD_len h, hl])]
    rfl
def dctMerge : List D → List D → List (D × D) → List D × List D
  | ks, vs, [] => (ks, vs)
  | ks, vs, (k, d) :: r => dctMerge (dctPut ks vs k d).1 (dctPut ks vs k d).2 r
theorem merge_ok {K : Kw} {G : Hp} {α : Al} : ∀ (ps : List (D × D)) (kvs : List (Key × V)) {ks vs : List D} {kk : List Key} {xs : List V}, keysD ks = some kk → RepL K G α vs xs → xs.length = ks.length →
    Paired (fun p kv => keyD p.1 = some kv.1 ∧ Rep K G α p.2 kv.2) ps kvs → ∃ kk' xs', keysD (dctMerge ks vs ps).1 = some kk' ∧ RepL K G α (dctMerge ks vs ps).2 xs' ∧ xs'.length = (dctMerge ks vs ps).1.length ∧ kk'.zip xs' = mergeK (kk.zip xs) kvs
  | [], _, ks, vs, kk, xs, h, r, hl, .nil => ⟨kk, xs, h, r, hl, rfl⟩
  | (k, d) :: ps, _, ks, vs, kk, xs, h, r, hl, .cons (b := (κ, v)) a t => by
    obtain ⟨kk', xs', e1, e2, e3, e4⟩ := put_ok h r hl a.1 a.2
    obtain ⟨kk2, xs2, f1, f2, f3, f4⟩ := merge_ok ps _ e1 e2 e3 t
    refine ⟨kk2, xs2, f1, f2, f3, ?_⟩
    rw [f4, e4]
    rfl
section
variable {X : Cx} {F : Frm} {Wx : WX} {e a b c tg iter elt o : Expr} {es : List Expr} {pos p tpos apos cpos p2 : Pos} {ma mb mc mo : M D} {mf : M S} {ms : M (List D)} {sts : List Stmt}
theorem PV.newD {σ : L2.St} {Q : VK} {ρ : E} {G H : Hp} {α : Al} {ks vs : List D} {kk : List Key} {xs : List V} (h : PV X F σ Q (.dct ks vs) ρ G α) (w : W (kw X) F ρ G α σ H) (hk : keysD ks = some kk) (r : RepL (kw X) G α vs xs) (hl : xs.length = ks.length) :
    ∀ p, H p = none → Q (.ref p) (upd H p (.dK (kk.zip xs))) := fun p np => by
  obtain ⟨w1, x⟩ := w.alloc (o := .dK (kk.zip xs)) np
  refine h _ _ _ _ w1 x ?_
  show Rep _ _ _ _ _
  unfold Rep
  exact ⟨p, xs, rfl, RepL.ext x _ _ r, hl, ⟨kk, hk, upd_same⟩⟩
/-- pairs in a list -/
def pairsD : List D → Option (List (D × D))
  | [] => some []
  | .tup [k, v] :: l => if (keyD k).isSome then (pairsD l).map ((k, v) :: ·) else none
  | _ => none
theorem pairs_ok {K : Kw} {G H : Hp} {α : Al} (s : ∀ a o, G a = some o → H a = some o) : ∀ {l : List D} {ps : List (D × D)} {xs : List V}, pairsD l = some ps → RepL K G α l xs →
    ∃ (as : List Addr) (kvs : List (Key × V)), xs = as.map V.ref ∧ Paired (fun p kv => SqT K.K H p [kV kv.1, kv.2]) as kvs ∧ Paired (fun p kv => keyD p.1 = some kv.1 ∧ Rep K G α p.2 kv.2) ps kvs
  | [], ps, xs, h, r => by
    unfold pairsD at h
    cases h
    unfold RepL at r
    exact ⟨[], [], r, .nil, .nil⟩
  | d :: l, ps, xs, h, r => by
    unfold RepL at r
    obtain ⟨x, r0, rfl, r1, r2⟩ := r
    unfold pairsD at h
    split at h
    · rename_i he
      cases he
    · rename_i k v l' he
      cases he
      split at h
      · rename_i hk
        obtain ⟨κ, hk⟩ := Option.isSome_iff_exists.mp hk
        cases e : pairsD l with
        | none => rw [e] at h; cases h
        | some ps' =>
          rw [e] at h
          cases h
          obtain ⟨as, kvs, rfl, h2, h3⟩ := pairs_ok s e r2
          unfold Rep at r1
          obtain ⟨a, ys, rfl, h4, r3⟩ := r1
          unfold RepL at r3
          obtain ⟨y1, t1, rfl, q1, r3⟩ := r3
          unfold RepL at r3
          obtain ⟨y2, t2, rfl, q2, r3⟩ := r3
          unfold RepL at r3
          subst r3
          have : y1 = kV κ := rep_key (H := H) hk (RepB.of s q1)
          subst this
          exact ⟨a :: as, (κ, y2) :: kvs, rfl, .cons (SqT.sub h4 s) h2, .cons ⟨hk, q2⟩ h3⟩
      · cases h
    · cases h
def dictD : List D → Option D
  | [.lst l] => (match pairsD l with
    | some ps => some (.dct (dctMerge [] [] ps).1 (dctMerge [] [] ps).2)
    | none => none)
  | _ => none
theorem dict_f : CallF X F (fun xs H Q => ∃ (a : Addr) (ps : List Addr) (kvs : List (Key × V)), xs = [.ref a] ∧ SqL X.K H a (ps.map V.ref) ∧ Paired (fun p kv => SqT X.K H p [kV kv.1, kv.2]) ps kvs ∧ ∀ p, H p = none → Q (.ref p) (upd H p (.dK (mergeK [] kvs)))) dictD := by
  refine ⟨fun ρ G α σ H vs Q as d w r e q => ?_⟩
  unfold dictD at e
  split at e
  · split at e
    · rename_i ps hp
      cases e
      obtain ⟨v, rfl, rv⟩ := one_of r
      obtain ⟨a, xs, rfl, h1, r1⟩ := rv
      obtain ⟨as, kvs, rfl, h2, h3⟩ := pairs_ok w.sub hp r1
      obtain ⟨kk, xs', f1, f2, f3, f4⟩ := merge_ok (ks := []) (vs := []) (kk := []) (xs := []) ps kvs rfl RepL.nil rfl h3
      have f4 : kk.zip xs' = mergeK [] kvs := f4
      refine ⟨a, as, kvs, rfl, SqL.of h1, h2, ?_⟩
      rw [← f4]
      exact q.newD w f1 f2 f3
    · cases e
  · cases e
end
end BZ
end
section
set_option Elab.async false
set_option linter.all false
set_option maxRecDepth 100000
set_option maxHeartbeats 1000000
namespace BZ
open PySem PySem.Spec PyProof.Rows L2

section
variable {X : Cx} {F : Frm} {Wx : WX} {e a b c tg iter elt o : Expr} {es : List Expr} {pos p tpos apos cpos p2 : Pos} {ma mb mc mo mk mv : M D} {mf : M S} {ms : M (List D)} {sts : List Stmt} {st : Stmt} {m : SM}
/-! ## assignments -/
def tgS (t : Tg) (d : D) : SM := fun ρ => match t.set d ρ with
  | some ρ' => .nx ρ'
  | none => .no
theorem plain_of_set {t : Tg} {d : D} {ρ ρ' : E} (h : t.set d ρ = some ρ') : d.plain = true := by
  cases t with
  | sl i =>
    unfold Tg.set at h
    by_cases hp : d.plain = true
    · exact hp
    · rw [if_neg hp] at h; cases h
  | unp l => cases d <;> first | rfl | (unfold Tg.set at h; cases h)
/-- t = e, where no names are stored at once -/
theorem psd_asg {t : Tg} (ha : PD X F Wx a ma) (hg : PG X tg (t.g X.K)) (h1 : swapsWithSole [tg] a pos.line X.env = pure false := by rfl) (h2 : swappedStores [tg] a X.env = pure none := by rfl) (h3 : List.map (fun x => x.snd) (assignEach [tg] X.env) = [assign tg X.env] := by rfl) :
    PSD X F Wx (.Assign [tg] a pos) (sBind ma (tgS t)) :=
  PS.imp' (ps_asg ha hg h1 h2 h3) fun Z σ H ⟨ρ, G, α, w, h⟩ => stepS w h fun d ρ1 v H1 G1 α1 w1 x1 r1 h1 => by
    unfold tgS at h1
    cases e : t.set d ρ1 with
    | none => rw [e] at h1; exact h1.elim
    | some ρ2 =>
      rw [e] at h1
      exact Tg.ok (K := kw X) w1 t d (r1.plain (plain_of_set e)) e fun σ2 w2 _ => h1 σ2 H1 G1 α1 w2 Ext.refl
/-- t1 = t2 = e -/
theorem psd_asg2 {t u : Tg} {tg2 : Expr} (ha : PD X F Wx a ma) (hg : PG X tg (t.g X.K)) (hg2 : PG X tg2 (u.g X.K)) (h1 : List.map (fun x => x.snd) (assignEach [tg, tg2] X.env) = [assign tg X.env, assign tg2 X.env] := by rfl) (h2 : swappedStores [tg, tg2] a X.env = pure none := by rfl) :
    PSD X F Wx (.Assign [tg, tg2] a pos) (sBind ma fun d => sSeq (tgS t d) (tgS u d)) :=
  PS.imp' (ps_asg2 ha hg hg2 h1 h2) fun Z σ H ⟨ρ, G, α, w, h⟩ => stepS w h fun d ρ1 v H1 G1 α1 w1 x1 r1 h1 => by
    unfold sSeq tgS at h1
    cases e : t.set d ρ1 with
    | none => rw [e] at h1; exact h1.elim
    | some ρ2 =>
      rw [e] at h1
      dsimp only at h1
      cases e2 : u.set d ρ2 with
      | none => rw [e2] at h1; exact h1.elim
      | some ρ3 =>
        rw [e2] at h1
        exact Tg.ok (K := kw X) w1 t d (r1.plain (plain_of_set e)) e fun σ2 w2 _ => Tg.ok (K := kw X) w2 u d (r1.plain (plain_of_set e)) e2 fun σ3 w3 _ => h1 σ3 H1 G1 α1 w3 Ext.refl
/-- x, y = a, b -/
def parS (i j : Nat) (ds : List D) : SM := fun ρ => match ds with
  | [x, y] => if x.plain && y.plain then .nx ((ρ.set i (.val x)).set j (.val y)) else .no
  | _ => .no
theorem stepSA {m : M (List D)} {f : List D → SM} {ρ : E} {G H : Hp} {α : Al} {σ : L2.St} {Q : List V → Hp → Prop} {Z : Ends} (w : W (kw X) F ρ G α σ H) (h : okS X F Wx Z G α (sBind m f ρ))
    (k : ∀ d ρ' v H' G' α', W (kw X) F ρ' G' α' σ H' → Ext G α G' α' → Paired (fun d v => TRep (kw X) σ G' α' d v) d v → okS X F Wx Z G' α' (f d ρ') → Q v H') : trA X F Wx m σ H Q :=
  ⟨ρ, G, α, w, (sBind_ok w h).imp fun d ρ' q v H' G' α' w' x r => k d ρ' v H' G' α' w' x r (q.ext x)⟩
theorem psd_par {i j : Nat} {x y : Str} {px py pt pt2 : Pos} {kt k2 : Nat} (hc : X.calm = true) (hN : X.N.Nodup) (hi : X.N[i]? = some x) (hj : X.N[j]? = some y) (hij : i ≠ j) (hx : X.env.scope.names.lookup x = some .local) (hy : X.env.scope.names.lookup y = some .local)
    (ha : PDA X F Wx [a, b] ms) (hw : swappedStores [.Tuple [.Name x px, .Name y py] kt pt] (.Tuple [a, b] k2 pt2) X.env = pure (some [x, y])) (hs : swapsWithSole [.Tuple [.Name x px, .Name y py] kt pt] (.Tuple [a, b] k2 pt2) pos.line X.env = pure false := by rfl) :
    PSD X F Wx (.Assign [.Tuple [.Name x px, .Name y py] kt pt] (.Tuple [a, b] k2 pt2) pos) (sBind ms (parS i j)) :=
  PS.imp' (ps_par hc hN hi hj hij hx hy ha hw hs) fun Z σ H ⟨ρ, G, α, w, h⟩ => stepSA w h fun ds ρ1 vs H1 G1 α1 w1 x1 r1 h1 => by
    unfold parS at h1
    split at h1
    · split at h1
      · rename_i d1 d2 hp
        have hp : d1.plain = true ∧ d2.plain = true := by simpa using hp
        obtain ⟨v, v', rfl, q1, q2⟩ := two_of r1
        exact ⟨v, v', rfl, h1 _ H1 G1 α1 ((w1.setVal (q1.plain hp.1)).setVal (q2.plain hp.2)) Ext.refl⟩
      · exact h1.elim
    · exact h1.elim
def par3S (i j l : Nat) (ds : List D) : SM := fun ρ => match ds with
  | [x, y, z] => if x.plain && y.plain && z.plain then .nx (((ρ.set i (.val x)).set j (.val y)).set l (.val z)) else .no
  | _ => .no
theorem psd_par3 {i j l : Nat} {x y z : Str} {px py pz pt pt2 : Pos} {kt k2 : Nat} (hc : X.calm = true) (hN : X.N.Nodup) (hi : X.N[i]? = some x) (hj : X.N[j]? = some y) (hl : X.N[l]? = some z) (hij : i ≠ j) (hil : i ≠ l) (hjl : j ≠ l) (hx : X.env.scope.names.lookup x = some .local) (hy : X.env.scope.names.lookup y = some .local) (hz : X.env.scope.names.lookup z = some .local)
    (ha : PDA X F Wx [a, b, c] ms) (hw : swappedStores [.Tuple [.Name x px, .Name y py, .Name z pz] kt pt] (.Tuple [a, b, c] k2 pt2) X.env = pure (some [x, y, z])) (hs : swapsWithSole [.Tuple [.Name x px, .Name y py, .Name z pz] kt pt] (.Tuple [a, b, c] k2 pt2) pos.line X.env = pure false := by rfl) :
    PSD X F Wx (.Assign [.Tuple [.Name x px, .Name y py, .Name z pz] kt pt] (.Tuple [a, b, c] k2 pt2) pos) (sBind ms (par3S i j l)) :=
  PS.imp' (ps_par3 hc hN hi hj hl hij hil hjl hx hy hz ha hw hs) fun Z σ H ⟨ρ, G, α, w, h⟩ => stepSA w h fun ds ρ1 vs H1 G1 α1 w1 x1 r1 h1 => by
    unfold par3S at h1
    split at h1
    · split at h1
      · rename_i d1 d2 d3 hp
        have hp : (d1.plain = true ∧ d2.plain = true) ∧ d3.plain = true := by simpa using hp
        obtain ⟨v, v', v'', rfl, q1, q2, q3⟩ := three_of r1
        exact ⟨v, v', v'', rfl, h1 _ H1 G1 α1 (((w1.setVal (q1.plain hp.1.1)).setVal (q2.plain hp.1.2)).setVal (q3.plain hp.2)) Ext.refl⟩
      · exact h1.elim
    · exact h1.elim
/-! ## x += e -/
def iaddD : D → D → Option D
  | .int i, .int j => some (.int (i + j))
  | .str x, .str y => if x.length + y.length ≤ 16777216 then some (.str (x ++ y)) else none
  | _, _ => none
def augS (i : Nat) (ma : M D) : SM := fun ρ => match ρ.sl[i]? with
  | some (.val _) => sBind ma (fun y ρ1 => match ρ1.sl[i]?, deref ρ1 y with
    | some (.val x), some b => (match iaddD x b with
      | some d => .nx (ρ1.set i (.val d))
      | none => .no)
    | _, _ => .no) ρ
  | some (.own _) => sBind ma (fun y ρ1 => match ρ1.sl[i]?, deref ρ1 y with
    | some (.own (.lst l)), some (.lst m) => if l.length + m.length ≤ 16777216 then .nx (ρ1.set i (.own (.lst (l ++ m)))) else .no
    | _, _ => .no) ρ
  | _ => .no
def rAug : R2 := fun x y H Q => (rI0 fun i j => .int (i + j)) x y H Q ∨ (fun x y H Q => (∃ i j, x = .str i ∧ y = .str j ∧ i.length + j.length ≤ sizeLine ∧ Q (.str (i ++ j)) H) ∨ rExt2 x y H Q) x y H Q
theorem aug_or : OpR X (inplaceOp .Add) rAug := OpR.or iop_add (OpR.or iop_add_str iop_ext)
theorem psd_aug {i : Nat} {x : Str} {pos' : Pos} (hN : X.N.Nodup) (hi : X.N[i]? = some x) (hx : L2.Loc X.env.scope x) (ha : PD X F Wx a ma) (hf : X.fn x = true ∨ X.env.scope.names.lookup x = some .local) : PSD X F Wx (.AugAssign (.Name x pos') .Add a pos) (augS i ma) :=
  PS.imp' (ps_aug hN hi hx ha (show PIp X .Add rAug from aug_or) hf) fun Z σ H ⟨ρ, G, α, w, h⟩ => by
    unfold augS at h
    split at h
    · rename_i d0 e0
      obtain ⟨v0, k1, _⟩ := w.slot i _ e0
      refine ⟨v0, k1, stepS w h fun y ρ1 v H1 G1 α1 w1 x1 r1 h1 => ?_⟩
      split at h1
      · rename_i xd bd e1 e2
        obtain ⟨v1, j1, j2⟩ := w1.slot i _ e1
        rw [k1] at j1; cases j1
        have rb := w1.look r1 e2
        split at h1
        · rename_i d e3
          unfold iaddD at e3
          split at e3
          · cases e3
            unfold Rep at j2
            subst j2
            obtain rfl := repB_int rb
            refine .inl ⟨_, _, rfl, rfl, h1 _ H1 G1 α1 (w1.setVal (v := .int _) (by unfold Rep; rfl)) Ext.refl⟩
          · split at e3
            · rename_i hz
              cases e3
              unfold Rep at j2
              subst j2
              obtain rfl := repB_str rb
              refine .inr (.inl ⟨_, _, rfl, rfl, hz, h1 _ H1 G1 α1 (w1.setVal (v := .str _) (by unfold Rep; rfl)) Ext.refl⟩)
            · cases e3
          · cases e3
        · exact h1.elim
      · exact h1.elim
    · rename_i d0 e0
      obtain ⟨a0, k1, _⟩ := w.own i _ e0
      refine ⟨_, k1, stepS w h fun y ρ1 v H1 G1 α1 w1 x1 r1 h1 => ?_⟩
      split at h1
      · rename_i l m e1 e2
        split at h1
        · rename_i hz
          obtain ⟨a1, j1, j2, _⟩ := w1.own i _ e1
          rw [k1] at j1; cases j1
          obtain ⟨xs, j6, j7⟩ := j2
          obtain ⟨b, ys, rfl, q1, q2⟩ := w1.look r1 e2
          refine .inr (.inr ⟨a0, b, xs, ys, rfl, rfl, j6, q1, by rw [j7.length, q2.length]; exact hz, ?_⟩)
          have w2 := w1.write (d' := .lst (l ++ m)) (o := .lst (xs ++ ys)) e1 k1 ⟨xs ++ ys, upd_same, RepL.append j7 q2⟩
          have : σ.set i (some (V.ref a0)) = σ := by
            refine List.ext_getElem? fun j => ?_
            by_cases z : i = j
            · subst z
              rw [List.getElem?_set_self (List.getElem?_eq_some_iff.mp k1).1, k1]
            · rw [List.getElem?_set_ne z]
          show Z.nx (σ.set i (some (V.ref a0))) _
          rw [this]
          exact h1 σ _ G1 α1 w2 Ext.refl
        · exact h1.elim
      · exact h1.elim
    · exact h.elim
/-! ## d[k] = v -/
def putAt (x k v : D) : SM := fun ρ => match x with
  | .sl i => (match ρ.sl[i]?, keyD k with
    | some (.own (.dct ks vs)), some _ => if v.plain && decide (ks.length < 16777216) then .nx (ρ.set i (.own (.dct (dctPut ks vs k v).1 (dctPut ks vs k v).2))) else .no
    | _, _ => .no)
  | .loc n => (match ρ.st[n]?, keyD k with
    | some (.dct ks vs), some _ => if v.plain && decide (ks.length < 16777216) then .nx (ρ.cell n (.dct (dctPut ks vs k v).1 (dctPut ks vs k v).2)) else .no
    | _, _ => .no)
  | _ => .no
theorem derefs1 {ρ : E} {d k : D} {κ : Key} (h : keyD d = some κ) : deref ρ d = some d := by
  cases d <;> first | rfl | cases h
theorem psd_dput (hu : X.A.units + 1 < cLine) (ho : PD X F Wx o mo) (hk : PD X F Wx b mk) (hv : PD X F Wx a mv) (hs : swapsWith a (some (.Subscript o b p2)) pos.line X.env = pure false) :
    PSD X F Wx (.Assign [.Subscript o b p2] a pos) (sBind mv fun v => sBind mo fun x => sBind mk fun k => putAt x k v) :=
  PS.imp' (ps_dput hu ho hk hv hs) fun Z σ H ⟨ρ, G, α, w, h⟩ => stepS w h fun v ρ1 vv H1 G1 α1 w1 x1 r1 h1 => stepS w1 h1 fun x ρ2 xv H2 G2 α2 w2 x2 r2 h2 => stepS w2 h2 fun k ρ3 kv H3 G3 α3 w3 x3 r3 h3 => by
    unfold putAt at h3
    split at h3
    · rename_i i
      split at h3
      · rename_i ks vs κ e1 e2
        split at h3
        · rename_i hp
          have hp : v.plain = true ∧ ks.length < 16777216 := by simpa using hp
          obtain ⟨a0, k1, k2, k3, k4, k5⟩ := w3.own i _ e1
          obtain ⟨xs, q1, q2, kk, q3, q4⟩ := k2
          have rx : σ[i]? = some (some xv) := TRep.ext x3 r2
          rw [k1] at rx; cases rx
          have rv : Rep (kw X) G3 α3 v vv := (TRep.ext (x2.trans x3) r1).plain hp.1
          obtain ⟨kk', xs', f1, f2, f3, f4⟩ := put_ok q3 q1 q2 e2 rv
          have : kv = kV κ := rep_key (H := H3) e2 (w3.look r3 (derefs1 (k := k) e2))
          subst this
          refine ⟨a0, _, rfl, .inl ⟨_, κ, q4, rfl, ?_, rfl⟩, ?_⟩
          · rw [List.length_zip, keysD_len q3, q2, Nat.min_self]; exact hp.2
          · rw [← f4]
            exact h3 σ _ G3 α3 (w3.write e1 k1 ⟨xs', f2, f3, kk', f1, upd_same⟩) Ext.refl
        · exact h3.elim
      · exact h3.elim
    · rename_i n
      split at h3
      · rename_i ks vs κ e1 e2
        split at h3
        · rename_i hp
          have hp : v.plain = true ∧ ks.length < 16777216 := by simpa using hp
          obtain ⟨a0, k1, k2, k3, k4⟩ := w3.cell n _ e1
          obtain ⟨xs, q1, q2, kk, q3, q4⟩ := k2
          have rx : Rep (kw X) G3 α3 (.loc n) xv := TRep.ext x3 r2
          unfold Rep at rx
          obtain ⟨a1, rfl, j1⟩ := rx
          rw [k1] at j1; cases j1
          have rv : Rep (kw X) G3 α3 v vv := (TRep.ext (x2.trans x3) r1).plain hp.1
          obtain ⟨kk', xs', f1, f2, f3, f4⟩ := put_ok q3 q1 q2 e2 rv
          have : kv = kV κ := rep_key (H := H3) e2 (w3.look r3 (derefs1 (k := k) e2))
          subst this
          refine ⟨a0, _, rfl, .inl ⟨_, κ, q4, rfl, ?_, rfl⟩, ?_⟩
          · rw [List.length_zip, keysD_len q3, q2, Nat.min_self]; exact hp.2
          · rw [← f4]
            exact h3 σ _ G3 α3 (w3.writeC (List.getElem?_eq_some_iff.mp e1).1 k1 ⟨xs', f2, f3, kk', f1, upd_same⟩) Ext.refl
        · exact h3.elim
      · exact h3.elim
    · exact h3.elim
/-! ## a ghost step: the slot's object becomes a cell of the store -/
def cellS (i : Nat) : E → Option E := fun ρ => match ρ.sl[i]? with
  | some (.own d) => some ⟨ρ.sl.set i (.val (.loc ρ.st.length)), ρ.st ++ [d]⟩
  | _ => none
theorem cell_ok {K : Kw} {ρ ρ' : E} {G H : Hp} {α : Al} {σ : L2.St} {i : Nat} (w : W K F ρ G α σ H) (e : cellS i ρ = some ρ') : ∃ α', W K F ρ' G α' σ H ∧ Ext G α G α' := by
  unfold cellS at e
  split at e
  · rename_i d h
    cases e
    obtain ⟨a, h1, h2, h3, h4, h5⟩ := w.own i _ h
    have hl : i < ρ.sl.length := (List.getElem?_eq_some_iff.mp h).1
    have x : Ext G α G (fun n => if n = ρ.st.length then some a else α n) := ⟨fun _ _ h => h, fun n b e => by
      have := w.dom n b e
      show (if n = ρ.st.length then some a else α n) = some b
      rw [if_neg (by omega)]; exact e⟩
    refine ⟨fun n => if n = ρ.st.length then some a else α n, ?_, x⟩
    have at_ : ∀ {j : Nat} {s : S}, (ρ.sl.set i (.val (.loc ρ.st.length)))[j]? = some s → (j = i ∧ s = .val (.loc ρ.st.length)) ∨ (j ≠ i ∧ ρ.sl[j]? = some s) := fun {j s} e => by
      by_cases z : j = i
      · subst z; rw [List.getElem?_set_self hl] at e; cases e; exact .inl ⟨rfl, rfl⟩
      · rw [List.getElem?_set_ne (Ne.symm z)] at e; exact .inr ⟨z, e⟩
    refine ⟨w.sub, by simp [w.len], fun j d' e => ?_, fun j d' e => ?_, fun j d' e => ?_, fun j k d1 d2 b e1 e2 e3 e4 => ?_, fun n d' e => ?_, fun n b e => ?_, fun n m b e1 e2 => ?_, fun n hn => ?_, w.keep, w.there, w.gnew, ?_, w.tab⟩
    · rcases at_ e with ⟨rfl, z⟩ | ⟨_, q⟩
      · cases z
        refine ⟨_, h1, ?_⟩
        unfold Rep
        exact ⟨a, rfl, if_pos rfl⟩
      · obtain ⟨v, k1, k2⟩ := w.slot j d' q
        exact ⟨v, k1, Rep.ext x _ _ k2⟩
    · rcases at_ e with ⟨_, z⟩ | ⟨z, q⟩
      · cases z
      · obtain ⟨b, k1, k2, k3, k4, k5⟩ := w.own j d' q
        refine ⟨b, k1, k2.keep x rfl, k3, k4, fun n e => ?_⟩
        have e : (if n = ρ.st.length then some a else α n) = some b := e
        by_cases hn : n = ρ.st.length
        · rw [if_pos hn] at e
          cases e
          exact z (w.sep j i d' d a q h k1 h1)
        · rw [if_neg hn] at e
          exact k5 n e
    · rcases at_ e with ⟨_, z⟩ | ⟨z, q⟩
      · cases z
      · obtain ⟨b, k1, k2, k3⟩ := w.lent j d' q
        exact ⟨b, k1, k2.keep x rfl, k3⟩
    · rcases at_ e1 with ⟨_, z⟩ | ⟨_, q1⟩
      · cases z
      · rcases at_ e2 with ⟨_, z⟩ | ⟨_, q2⟩
        · cases z
        · exact w.sep j k d1 d2 b q1 q2 e3 e4
    · by_cases hn : n < ρ.st.length
      · have e : (ρ.st ++ [d])[n]? = some d' := e
        rw [List.getElem?_append_left hn] at e
        obtain ⟨b, k1, k2, k3, k4⟩ := w.cell n d' e
        exact ⟨b, x.al n b k1, k2.keep x rfl, k3, k4⟩
      · have e : (ρ.st ++ [d])[n]? = some d' := e
        have hn' : n = ρ.st.length := by
          have := (List.getElem?_eq_some_iff.mp e).1
          rw [List.length_append, List.length_singleton] at this
          omega
        subst hn'
        rw [List.getElem?_append_right (Nat.le_refl _), Nat.sub_self] at e
        cases e
        exact ⟨a, if_pos rfl, h2.keep x rfl, h3, .inr h4⟩
    · show n < (ρ.st ++ [d]).length
      rw [List.length_append, List.length_singleton]
      have e : (if n = ρ.st.length then some a else α n) = some b := e
      by_cases hn : n = ρ.st.length
      · omega
      · rw [if_neg hn] at e
        have := w.dom n b e
        omega
    · have e1 : (if n = ρ.st.length then some a else α n) = some b := e1
      have e2 : (if m = ρ.st.length then some a else α m) = some b := e2
      by_cases hn : n = ρ.st.length
      · by_cases hm : m = ρ.st.length
        · omega
        · rw [if_pos hn] at e1
          rw [if_neg hm] at e2
          cases e1
          exact absurd e2 (h5 m)
      · by_cases hm : m = ρ.st.length
        · rw [if_neg hn] at e1
          rw [if_pos hm] at e2
          cases e2
          exact absurd e1 (h5 n)
        · rw [if_neg hn] at e1
          rw [if_neg hm] at e2
          exact w.inj n m b e1 e2
    · show (if n = ρ.st.length then some a else α n) = F.α0 n
      have := w.n0
      rw [if_neg (by omega)]; exact w.old n hn
    · show F.n0 ≤ (ρ.st ++ [d]).length
      rw [List.length_append]
      have := w.n0
      omega
  · cases e
def sCell (i : Nat) (m : SM) : SM := fun ρ => match cellS i ρ with
  | some ρ' => m ρ'
  | none => .no
theorem pssd_cell {i : Nat} (h : PSsD X F Wx sts m) : PSsD X F Wx sts (sCell i m) :=
  PSs.imp' h fun Z σ H ⟨ρ, G, α, w, h⟩ => by
    unfold sCell at h
    cases e : cellS i ρ with
    | none => rw [e] at h; exact h.elim
    | some ρ' =>
      rw [e] at h
      obtain ⟨α', w', x⟩ := cell_ok w e
      exact ⟨ρ', G, α', w', h.ext x⟩
theorem pssd_frz {i : Nat} (h : PSsD X F Wx sts m) : PSsD X F Wx sts (sFrz i m) :=
  PSs.imp' h fun Z σ H ⟨ρ, G, α, w, h⟩ => by
    unfold sFrz at h
    cases e : frz i ρ with
    | none => rw [e] at h; exact h.elim
    | some ρ' =>
      rw [e] at h
      obtain ⟨G', w', x⟩ := frz_ok w e
      exact ⟨ρ', G', α, w', h.ext x⟩
end
end BZ
end
section
set_option Elab.async false
set_option linter.all false
set_option maxRecDepth 100000
set_option maxHeartbeats 1000000
namespace BZ
open PySem PySem.Spec PyProof.Rows L2

/-! ## dict displays -/
def pairsM : List (M D × M D) → M (List (D × D))
  | [] => ret []
  | (mk, mv) :: l => do
    let k ← mk
    let v ← mv
    let r ← pairsM l
    ret ((k, v) :: r)
def dispS (l : List (M D × M D)) : M S := fun ρ => match pairsM l ⟨ρ.sl.map lend, ρ.st⟩ with
  | .ok ps ρ1 => if ps.all (fun p => (keyD p.1).isSome && p.2.plain) && decide (ps.length ≤ 15) then .ok (.own (.dct (dctMerge [] [] ps).1 (dctMerge [] [] ps).2)) { ρ with st := ρ1.st } else .no
  | _ => .no
section
variable {X : Cx} {F : Frm} {Wx : WX} {e a b c tg iter elt o : Expr} {es : List Expr} {pos p tpos apos cpos p2 : Pos} {ma mb mc mo mk mv : M D} {mf : M S} {ms : M (List D)} {sts : List Stmt} {st : Stmt} {m : SM}
def VVD (X : Cx) (σ : L2.St) (G : Hp) (α : Al) : List (D × D) → List (V × V) → Prop := Paired fun p q => TRep (kw X) σ G α p.1 q.1 ∧ TRep (kw X) σ G α p.2 q.2
theorem VVD.ext {X : Cx} {σ : L2.St} {G G' : Hp} {α α' : Al} {ps : List (D × D)} {vs : List (V × V)} (x : Ext G α G' α') (h : VVD X σ G α ps vs) : VVD X σ G' α' ps vs := by
  induction h with
  | nil => exact .nil
  | cons a _ ih => exact .cons ⟨TRep.ext x a.1, TRep.ext x a.2⟩ ih
def PPP (X : Cx) (F : Frm) (σ : L2.St) (Q : List (V × V) → Hp → Prop) : PP (List (D × D)) := fun ps ρ G α => ∀ vs H' G' α', W (kw X) F ρ G' α' σ H' → Ext G α G' α' → VVD X σ G' α' ps vs → Q vs H'
theorem PPP.anti {X : Cx} {F : Frm} {σ : L2.St} {Q : List (V × V) → Hp → Prop} : Anti (PPP X F σ Q) := fun b ρ G α G' α' x h v H1 G1 α1 w y r => h v H1 G1 α1 w (x.trans y) r
abbrev ZF : PP Exn := fun _ _ _ _ => False
theorem ZF.anti : Anti ZF := fun _ _ _ _ _ _ _ h => h
theorem ZF.pz {F : Frm} {σ : L2.St} {β : Type} {P : PP β} {G : Hp} {α : Al} {r : R β} (h : okR P ZF G α r) : okR P (PZ X F WF σ) G α r := by
  cases r with
  | ok b ρ => exact h
  | ex x ρ => exact h.elim
  | no => exact h.elim
theorem okR.bindZ {β γ : Type} {P : PP γ} {G : Hp} {α : Al} {m : M β} {f : β → M γ} {ρ : E} (h : okR P ZF G α ((m >>= f) ρ)) : okR (fun b ρ' G' α' => okR P ZF G' α' (f b ρ')) ZF G α (m ρ) := okR.bind h
theorem pairs_tr {H0 G0 : Hp} {n0 : Nat} {α0 : Al} {T : Addr → Prop} {σ : L2.St} : ∀ (l : List (M D × M D)) {Q : List (V × V) → Hp → Prop} {ρ : E} {G H : Hp} {α : Al}, W (kw X) ⟨H0, G0, n0, α0, T⟩ ρ G α σ H →
    okR (PPP X ⟨H0, G0, n0, α0, T⟩ σ Q) ZF G α (pairsM l ρ) → tPairs (l.map fun p => (bE X T p.1, bE X T p.2)) σ H Q
  | [], Q, ρ, G, H, α, w, h => h [] H G α w Ext.refl .nil
  | (mk, mv) :: l, Q, ρ, G, H, α, w, h => by
    show bE X T mk σ H fun x H1 => bE X T mv σ H1 fun y H2 => tPairs (l.map fun p => (bE X T p.1, bE X T p.2)) σ H2 fun ps H3 => Q ((x, y) :: ps) H3
    refine ⟨H0, G0, n0, α0, ρ, G, α, w, ZF.pz (okR.imp h.bindZ fun k ρ1 q v H1 G1 α1 w1 x1 r1 => ?_)⟩
    have q := okR.ext PPP.anti ZF.anti x1 q
    refine ⟨H0, G0, n0, α0, ρ1, G1, α1, w1, ZF.pz (okR.imp (okR.bindZ q) fun k2 ρ2 q2 v2 H2 G2 α2 w2 x2 r2 => ?_)⟩
    have q2 := okR.ext PPP.anti ZF.anti x2 q2
    refine pairs_tr l w2 (okR.imp (okR.bindZ q2) fun ps ρ3 q3 vs H3 G3 α3 w3 x3 r3 => ?_)
    exact q3 _ H3 G3 α3 w3 x3 (.cons ⟨TRep.ext (x2.trans x3) r1, TRep.ext x3 r2⟩ r3)
theorem disp_tr {l : List (M D × M D)} {σ : L2.St} {H : Hp} {Q : VK} (q : trF X F Wx (dispS l) σ H Q) : tDisp (l.map fun p => (bE X F.T p.1, bE X F.T p.2)) σ H Q := by
  obtain ⟨ρ, G, α, w, h⟩ := q
  intro p np
  obtain ⟨w1, f1, h01⟩ := w.alloc0 (o := .dK []) np
  unfold dispS at h
  cases e : pairsM l ⟨ρ.sl.map lend, ρ.st⟩ with
  | ex _ _ => rw [e] at h; exact h.elim
  | no => rw [e] at h; exact h.elim
  | ok ps ρ1 =>
    rw [e] at h
    dsimp only at h
    split at h
    · rename_i hp
      have hp' : (∀ x ∈ ps, (keyD x.1).isSome = true ∧ x.2.plain = true) ∧ ps.length ≤ 15 := by simpa [List.all_eq_true] using hp
      have wb := w1.blk w1.lnd
      refine pairs_tr l wb ?_
      show okR _ _ _ _ (pairsM l ⟨ρ.sl.map lend, ρ.st⟩)
      rw [e]
      intro vs H2 G2 α2 w2 x2 r2
      have hD : H2 p = some (.dK []) := w2.stays upd_same f1.cl rfl
      -- keys and values
      have key : ∀ (ps : List (D × D)) (vs : List (V × V)), (∀ x ∈ ps, (keyD x.1).isSome = true ∧ x.2.plain = true) → VVD X σ G2 α2 ps vs → ∃ kvs : List (Key × V), vs = kvs.map (fun kv => (kV kv.1, kv.2)) ∧ Paired (fun p kv => keyD p.1 = some kv.1 ∧ Rep (kw X) G2 α2 p.2 kv.2) ps kvs := by
        intro ps vs hall r
        induction r with
        | nil => exact ⟨[], rfl, .nil⟩
        | @cons d v ds vs0 a t ih =>
          obtain ⟨kvs, rfl, h2⟩ := ih fun x hx => hall x (List.mem_cons_of_mem _ hx)
          obtain ⟨h3, h4⟩ := hall d List.mem_cons_self
          obtain ⟨κ, h3⟩ := Option.isSome_iff_exists.mp h3
          have : v.1 = kV κ := rep_key (H := H2) h3 (w2.look a.1 (derefs1 (k := d.1) h3))
          refine ⟨(κ, v.2) :: kvs, ?_, .cons ⟨h3, a.2.plain h4⟩ h2⟩
          obtain ⟨v1, v2⟩ := v
          dsimp only at this
          rw [this]; rfl
      obtain ⟨kvs, rfl, hk⟩ := key ps vs hp'.1 r2
      have hlen : kvs.length = ps.length := (paired_len hk).symm
      refine ⟨hD, kvs, rfl, by rw [hlen]; exact hp'.2, ?_⟩
      obtain ⟨kk, xs', g1, g2, g3, g4⟩ := merge_ok (ks := []) (vs := []) (kk := []) (xs := []) ps kvs rfl RepL.nil rfl hk
      have g4 : kk.zip xs' = mergeK [] kvs := g4
      have w3 := W.back w1 w2.forget x2
      have f3 := Free.back w1 w2 f1 upd_same (st := ρ1.st)
      have w4 := w3.writeF (o := .dK (mergeK [] kvs)) f3 h01 hD rfl
      exact h _ _ G2 α2 w4 x2 ⟨p, rfl, ⟨xs', g2, g3, kk, g1, by rw [g4]; exact upd_same⟩, f3, h01⟩
    · exact h.elim
theorem pf_disp {keys : List (Option Expr)} {values : List Expr} {l : List (M D × M D)} (h : PPs X pos keys values (l.map fun p => (bE X F.T p.1, bE X F.T p.2))) (hall : keys.all (·.isSome) = true) (hl : keys.length = values.length) (h0 : keys ≠ []) (h15 : keys.length ≤ 15) :
    PDF X F Wx (.Dict keys values pos) (dispS l) := PE.imp' (pe_disp h hall hl h0 h15) fun σ H Q q => disp_tr q
theorem ppsd_nil {T : Addr → Prop} : PPs X pos [] [] (([] : List (M D × M D)).map fun p => (bE X T p.1, bE X T p.2)) := pps_nil
theorem bE_of {T : Addr → Prop} (h : ∀ (H0 G0 : Hp) (n0 : Nat) (α0 : Al), PD X ⟨H0, G0, n0, α0, T⟩ WF e ma) : PE X e (bE X T ma) := ⟨fun pins s σ H Q I ⟨H0, G0, n0, α0, q⟩ => (h H0 G0 n0 α0).run pins s σ H Q I q⟩
theorem ppsd_cons {T : Addr → Prop} {keys : List (Option Expr)} {values : List Expr} {l : List (M D × M D)} (hk : ∀ (H0 G0 : Hp) (n0 : Nat) (α0 : Al), PD X ⟨H0, G0, n0, α0, T⟩ WF a mk) (hv : ∀ (H0 G0 : Hp) (n0 : Nat) (α0 : Al), PD X ⟨H0, G0, n0, α0, T⟩ WF b mv)
    (h : PPs X pos keys values (l.map fun p => (bE X T p.1, bE X T p.2))) : PPs X pos (some a :: keys) (b :: values) (((mk, mv) :: l).map fun p => (bE X T p.1, bE X T p.2)) := pps_cons (bE_of hk) (bE_of hv) h
/-- {} -/
theorem pf_disp0 : PDF X F Wx (.Dict [] [] pos) (ret (.own (.dct [] []))) :=
  PE.imp' pe_dnewK fun σ H Q ⟨ρ, G, α, w, h⟩ p np => by
    obtain ⟨w1, f1, h01⟩ := w.alloc0 (o := .dK []) np
    exact h _ _ G α w1 Ext.refl ⟨p, rfl, ⟨[], RepL.nil, rfl, [], rfl, upd_same⟩, f1, h01⟩
/-! ## d.get -/
def getD (k z : D) (x : D) : Option D := match x with
  | .dct ks vs => (match keyD k, keysD ks with
    | some κ, some _ => some ((dctGet ks vs κ).getD z)
    | _, _ => none)
  | _ => none
def getM (x k z : D) : M D := fun ρ => match deref ρ x with
  | some d => (match getD k z d with
    | some r => if z.plain then .ok r ρ else .no
    | none => .no)
  | none => .no
def isDct (x : D) : M Unit := fun ρ => match deref ρ x with
  | some (.dct _ _) => .ok () ρ
  | _ => .no
theorem isDct_ok {x : D} {v : V} {ρ : E} {σ : L2.St} {G H : Hp} {α : Al} {γ : Type} {P : PP γ} {Z : PP Exn} {f : Unit → M γ} (w : W (kw X) F ρ G α σ H) (r : TRep (kw X) σ G α x v) (h : okR P Z G α ((isDct x >>= f) ρ)) : (∃ a, v = .ref a ∧ IsD H a) ∧ okR P Z G α (f () ρ) := by
  have h := h.bind
  unfold isDct at h
  split at h
  · rename_i ks vs e
    obtain ⟨a, xs, rfl, _, _, kk, _, hh⟩ := w.look r e
    exact ⟨⟨a, rfl, .inl ⟨_, .inl hh⟩⟩, h⟩
  · exact h.elim
theorem get_core {x k z : D} {kv zv : V} {ρ : E} {G H : Hp} {α : Al} {σ : L2.St} {Q : VK} {a0 : Addr} (w : W (kw X) F ρ G α σ H) (rx : TRep (kw X) σ G α x (.ref a0)) (rk : TRep (kw X) σ G α k kv) (rz : TRep (kw X) σ G α z zv) (h : okR (PV X F σ Q) (PZ X F Wx σ) G α (getM x k z ρ)) :
    ∃ o, DGet H a0 kv o ∧ Q (o.getD zv) H := by
  unfold getM at h
  cases e : deref ρ x with
  | none => rw [e] at h; exact h.elim
  | some d =>
    rw [e] at h
    dsimp only at h
    cases d with
    | dct ks vs =>
      unfold getD at h
      dsimp only at h
      cases e1 : keyD k with
      | none => rw [e1] at h; exact h.elim
      | some κ =>
        cases e2 : keysD ks with
        | none => rw [e1] at h; rw [e2] at h; exact h.elim
        | some kk =>
          rw [e1] at h
          rw [e2] at h
          dsimp only at h
          by_cases hz : z.plain = true
          · rw [if_pos hz] at h
            obtain ⟨p, xs, ep, r, l, kk', e3, s⟩ := w.look rx e
            rw [e2] at e3; cases e3
            cases ep
            have : kv = kV κ := rep_key (H := H) e1 (w.look rk (derefs1 (k := k) e1))
            subst this
            obtain ⟨g1, g2⟩ := dctGet_ok (k := κ) e2 r l
            cases e4 : dctGet ks vs κ with
            | none =>
              rw [e4] at h
              refine ⟨none, .inl ⟨_, κ, .inl s, rfl, (g2 e4).symm⟩, ?_⟩
              exact h _ H G α w Ext.refl rz
            | some d =>
              rw [e4] at h
              obtain ⟨v, v1, v2⟩ := g1 d e4
              refine ⟨some v, .inl ⟨_, κ, .inl s, rfl, v1.symm⟩, ?_⟩
              exact h _ H G α w Ext.refl (TRep.of v2)
          · rw [if_neg hz] at h; exact h.elim
    | _ => exact h.elim
theorem pd_get2 (hu : X.A.units + 1 < cLine) (ho : PD X F Wx o mo) (ha : PD X F Wx a ma) (hb : PD X F Wx b mb) (m : M2 X o "get" apos a b cpos) :
    PD X F Wx (.Call (.Attribute o "get" apos) [a, b] [] cpos) (do let x ← mo; isDct x; let k ← ma; let z ← mb; getM x k z) :=
  PE.imp' (pe_dget2 hu ho ha hb m) fun σ H Q ⟨ρ, G, α, w, h⟩ => stepE PV.anti w h fun x ρ1 v H1 G1 α1 w1 x1 r1 h1 => by
    obtain ⟨⟨a0, rfl, hd⟩, h1⟩ := isDct_ok w1 r1 h1
    exact ⟨a0, rfl, hd, stepE PV.anti w1 h1 fun k ρ2 kv H2 G2 α2 w2 x2 r2 h2 => stepE PV.anti w2 h2 fun z ρ3 zv H3 G3 α3 w3 x3 r3 h3 =>
      get_core w3 (TRep.ext (x2.trans x3) r1) (TRep.ext x3 r2) r3 h3⟩
theorem pd_get1 (hu : X.A.units + 1 < cLine) (ho : PD X F Wx o mo) (ha : PD X F Wx a ma) (m : M1 X o "get" apos a cpos) :
    PD X F Wx (.Call (.Attribute o "get" apos) [a] [] cpos) (do let x ← mo; isDct x; let k ← ma; getM x k .non) :=
  PE.imp' (pe_dget1 hu ho ha m) fun σ H Q ⟨ρ, G, α, w, h⟩ => stepE PV.anti w h fun x ρ1 v H1 G1 α1 w1 x1 r1 h1 => by
    obtain ⟨⟨a0, rfl, hd⟩, h1⟩ := isDct_ok w1 r1 h1
    exact ⟨a0, rfl, hd, stepE PV.anti w1 h1 fun k ρ2 kv H2 G2 α2 w2 x2 r2 h2 => by
      obtain ⟨o, q1, q2⟩ := get_core w2 (TRep.ext x2 r1) r2 (zv := V.non) (by unfold TRep Rep; rfl) h2
      exact ⟨o, q1, q2⟩⟩
end
end BZ
end
section
set_option Elab.async false
set_option linter.all false
set_option maxRecDepth 100000
set_option maxHeartbeats 3200000
namespace BZ
open PySem PySem.Spec PyProof.Rows L2

/-! ## sets of numbers and texts, their table known -/
def kyOf (e : Int × Value) : Key := match e.2 with
  | .int k _ => .inl k
  | .str x _ => .inr x
  | _ => .inl 0
abbrev mk (P : Program) (w : World) := mixKind P w
def GoodM (P : Program) (w : World) (e : Int × Value) : Prop := ∃ k : Key, (mk P w).is k e.2 = true ∧ e.1 = (mk P w).hash k
theorem is_ky {P : Program} {w : World} {k : Key} {v : Value} {h : Int} (e : (mk P w).is k v = true) : kyOf (h, v) = k := by
  rcases keyIs_shape (show keyIs k v = true from e) with ⟨i, t, rfl, rfl⟩ | ⟨x, t, rfl, rfl⟩ <;> rfl
theorem is_scan {P : Program} {w : World} {k : Key} {v : Value} (e : (mk P w).is k v = true) : v.scannable = true := by
  rcases keyIs_shape (show keyIs k v = true from e) with ⟨i, t, rfl, rfl⟩ | ⟨x, t, rfl, rfl⟩ <;> rfl
theorem good_el {P : Program} {w : World} {l : List (Int × Value)} (g : ∀ e ∈ l, GoodM P w e) : ElemsOf (mk P w) l := fun e he => by
  obtain ⟨k, h1, h2⟩ := g e he
  exact ⟨⟨k, h1, h2⟩, is_scan h1⟩
theorem good_iff {P : Program} {w : World} {e : Int × Value} (g : GoodM P w e) (k : Key) : (mk P w).is k e.2 = true ↔ kyOf e = k := by
  obtain ⟨k0, h1, _⟩ := g
  have e0 : kyOf e = k0 := is_ky (h := e.1) h1
  rw [e0]
  exact ⟨fun h => (mk P w).inj _ _ _ h1 h, fun h => h ▸ h1⟩
theorem good_in {P : Program} {w : World} {l : List (Int × Value)} (g : ∀ e ∈ l, GoodM P w e) (k : Key) : k ∈ l.map kyOf ↔ ∃ e ∈ l, (mk P w).is k e.2 = true := by
  rw [List.mem_map]
  exact ⟨fun ⟨e, he, q⟩ => ⟨e, he, (good_iff (g e he) k).2 q⟩, fun ⟨e, he, q⟩ => ⟨e, he, (good_iff (g e he) k).1 q⟩⟩
structure SetM (P : Program) (w : World) (h : Heap) (a : Addr) (S : Key → Bool) (n : Nat) (o : Obj) (es : Array (Int × Value)) (ep : Nat) (t : SetTable) : Prop where
  ob : h.get? a = some o
  ex : o.ExactSet
  dt : o.data = .set es ep t
  good : ∀ e ∈ es.toList, GoodM P w e
  nd : (es.toList.map kyOf).Nodup
  mem : ∀ k, S k = true ↔ k ∈ es.toList.map kyOf
  bd : es.size < scanBound
  fits : t.fits es.size = true
  size : es.size = n
  ris : Ris t.place.toList
  led : w.params.followText "set-order" = true ∨ t.led = true
abbrev SetX (P : Program) (w : World) (h : Heap) (a : Addr) (S : Key → Bool) (n : Nat) : Prop := ∃ o es ep t, SetM P w h a S n o es ep t
section
variable {P : Program} {w : World} {A : Around} {E : Value → Shared → Prop} {s : Shared} {a : Addr} {S : Key → Bool} {n : Nat} {o : Obj} {es : Array (Int × Value)} {ep : Nat} {t : SetTable}
theorem SetX.at {h h' : Heap} (R : SetX P w h a S n) (k : ∀ o, h.get? a = some o → h'.get? a = some o) : SetX P w h' a S n := by
  obtain ⟨o, es, ep, t, R⟩ := R
  exact ⟨o, es, ep, t, { R with ob := k o R.ob }⟩
theorem SetX.congr {h : Heap} {S' : Key → Bool} (R : SetX P w h a S n) (e : ∀ k, S' k = S k) : SetX P w h a S' n := by
  have : S' = S := funext e
  rw [this]; exact R
/-- what was laid anew is stored -/
theorem add_tail {g : Bool → Sem Unit} (hg : ∀ (b : Bool) (s₁ : Shared) (Q' : Unit → Shared → Prop), Q' () s₁ → wpAny (model P w) A (g b) Q' E s₁) (ho : s.heap.get? a = some o) (hx : o.ExactSet) (hd : o.data = .set es ep t)
    {es1 : Array (Int × Value)} {t2 : SetTable} {S' : Key → Bool} (g1 : ∀ e ∈ es1.toList, GoodM P w e) (nd1 : (es1.toList.map kyOf).Nodup) (m1 : ∀ k, S' k = true ↔ k ∈ es1.toList.map kyOf)
    (hb1 : es1.size < scanBound) (hf2 : t2.fits es1.size = true) (hr : Ris t2.place.toList) (hl : w.params.followText "set-order" = true ∨ t2.led = true) {wasDummy : Bool} {R : Option Bool → Shared → Prop}
    (hR : ∀ h', Heap.SameBut a s.heap h' → SetX P w h' a S' es1.size → R (some true) { s with heap := h' }) :
    wpAny (model P w) A (do
        storeSet a es1 t2
        if (!wasDummy && t2.tooFull) = true then do
            g (relayAll t2 es1 (SetTable.grown es1.size)).2.2
            storeSet a (relayAll t2 es1 (SetTable.grown es1.size)).1 (relayAll t2 es1 (SetTable.grown es1.size)).2.1
            pure (some true)
          else pure (some true)) R E s := by
  refine wpAny_bind (wpAny_storeSet_of ho hd ?_ (fits_of_scanBound hb1))
  have ho1 := store_at (es' := es1) (t' := t2) ho hd
  have sb1 := Heap.SameBut.update s.heap a (Obj.putSet es1 t2)
  split
  · have pm := relayAll_perm t2 es1 (SetTable.grown es1.size)
    have hf3 := relayAll_fits t2 es1 (SetTable.grown es1.size)
    have hr3 := relayAll_ris t2 es1 (SetTable.grown es1.size)
    have hl3 := relayAll_led t2 es1 (SetTable.grown es1.size)
    generalize relayAll t2 es1 (SetTable.grown es1.size) = Z at pm hf3 hr3 hl3 ⊢
    obtain ⟨es2, t3, gave⟩ := Z
    dsimp only at pm hf3 hr3 hl3 ⊢
    have hsz : es2.size = es1.size := by rw [← Array.length_toList, pm.length_eq, Array.length_toList]
    refine wpAny_bind (hg _ _ _ ?_)
    refine wpAny_bind (wpAny_storeSet_of ho1 rfl ?_ (fits_of_scanBound (by rw [hsz]; exact hb1)))
    have ho2 := store_at (es' := es2) (t' := t3) ho1 rfl
    exact wpAny_pure (hR _ (sb1.trans (Heap.SameBut.update _ a _)) ⟨_, es2, _, t3, ⟨ho2, hx, rfl, fun e he => g1 e (pm.mem_iff.mp he), (pm.map kyOf).nodup_iff.mpr nd1, fun k => (m1 k).trans (pm.map kyOf).mem_iff.symm, by rw [hsz]; exact hb1, hf3, hsz, hr3, hl.imp id fun z => by rw [hl3]; exact z⟩⟩)
  · exact wpAny_pure (hR _ sb1 ⟨_, es1, _, t2, ⟨ho1, hx, rfl, g1, nd1, m1, hb1, hf2, rfl, hr, hl⟩⟩)
theorem addX {k : Key} {v : Value} {Q : Bool → Shared → Prop} (hv : (mk P w).is k v = true) (R : SetX P w s.heap a S n) (room : n + 1 < scanBound)
    (hQ : ∀ h', Heap.SameBut a s.heap h' → SetX P w h' a (fun j => S j || decide (j = k)) (if S k = true then n else n + 1) → Q (!S k) { s with heap := h' }) :
    wpAny (model P w) A (setAddHashed a v ((mk P w).hash k)) Q E s := by
  obtain ⟨o, es, ep, t, R⟩ := R
  have hsc : v.scannable = true := is_scan hv
  have hel : ElemsOf (mk P w) es.toList := good_el R.good
  unfold setAddHashed setAddHashedIn
  refine wpAny_holding (wpAny_bind (wpAny_setState_of R.ob R.dt R.fits ?_))
  dsimp only
  rw [byScan_of hsc R.bd hel]
  simp only [↓reduceIte]
  unfold setAddByScan
  refine wpAny_bind ?_
  refine wpAny_bind (wpAny_rule ?_)
  refine wpAny_bind (wpAny_setScan_of hv R.ob R.dt R.fits hel ?_)
  cases hfi : List.findIdx? (fun e => (mk P w).is k e.2) es.toList with
  | some j =>
    dsimp only
    obtain ⟨hj, pj, _⟩ := List.findIdx?_eq_some_iff_getElem.mp hfi
    have hSk : S k = true := (R.mem k).2 ((good_in R.good k).2 ⟨es.toList[j], List.getElem_mem hj, pj⟩)
    refine wpAny_pure (wpAny_pure ?_)
    have q := hQ s.heap (Heap.SameBut.refl a s.heap) ⟨o, es, ep, t, { R with
      mem := fun i => by
        rw [Bool.or_eq_true, decide_eq_true_eq, ← R.mem i]
        exact ⟨fun z => z.elim id (fun e => e ▸ hSk), .inl⟩
      size := by rw [if_pos hSk]; exact R.size }⟩
    rw [hSk] at q
    exact q
  | none =>
    dsimp only
    have hnk : k ∉ es.toList.map kyOf := fun z => by
      obtain ⟨e, he, q⟩ := (good_in R.good k).1 z
      have c := List.findIdx?_eq_none_iff.mp hfi e he
      rw [q] at c
      cases c
    have hSk : S k = false := by
      cases q : S k with
      | false => rfl
      | true => exact absurd ((R.mem k).1 q) hnk
    have hgw : ∀ (b : Bool) {s₁ : Shared} {Q' : Unit → Shared → Prop}, Q' () s₁ → wpAny (model P w) A (match b with | true => rule "set.scan.the-table-gave-way" | false => pure ()) Q' E s₁ :=
      fun b s₁ Q' q => by cases b <;> first | exact wpAny_pure q | exact wpAny_rule q
    have pm := layNew_perm t es ((mk P w).hash k) v
    have hf1 := layNew_fits t es ((mk P w).hash k) v
    have hr1 := layNew_ris t es ((mk P w).hash k) v R.ris
    have hl1 := layNew_led t es ((mk P w).hash k) v
    generalize layNew t es ((mk P w).hash k) v = Z at pm hf1 hr1 hl1 ⊢
    obtain ⟨es1, t1, wasDummy, gave⟩ := Z
    dsimp only at pm hf1 hr1 hl1 ⊢
    rw [Array.toList_push] at pm
    have pc : es1.toList.Perm (((mk P w).hash k, v) :: es.toList) := pm.trans (List.perm_append_singleton _ _)
    have pk : (es1.toList.map kyOf).Perm (k :: es.toList.map kyOf) := by
      have q := pc.map kyOf
      rw [List.map_cons, is_ky hv] at q
      exact q
    have g1 : ∀ e ∈ es1.toList, GoodM P w e := fun e he => by
      rcases List.mem_cons.mp (pc.mem_iff.mp he) with z | z
      · rw [z]; exact ⟨k, hv, rfl⟩
      · exact R.good e z
    have nd1 : (es1.toList.map kyOf).Nodup := pk.nodup_iff.mpr (List.nodup_cons.mpr ⟨hnk, R.nd⟩)
    have m1 : ∀ i, (S i || decide (i = k)) = true ↔ i ∈ es1.toList.map kyOf := fun i => by
      rw [Bool.or_eq_true, decide_eq_true_eq, R.mem i, pk.mem_iff, List.mem_cons]
      exact Or.comm
    have hsz : es1.size = n + 1 := by rw [← Array.length_toList, pc.length_eq, List.length_cons, Array.length_toList, R.size]
    have hb1 : es1.size < scanBound := by rw [hsz]; exact room
    have hled : w.params.followText "set-order" = true ∨ t1.led = true := R.led.imp id fun z => by rw [hl1]; exact z
    have fin : ∀ h', Heap.SameBut a s.heap h' → SetX P w h' a (fun j => S j || decide (j = k)) es1.size → Q true { s with heap := h' } := fun h' sb r => by
      have q := hQ h' sb
      rw [hSk] at q
      rw [hsz] at r
      exact q r
    refine wpAny_bind (hgw _ ?_)
    split
    · refine wpAny_bind ?_
      rw [hashByValue_scannable 8 hsc]
      refine wpAny_pure ?_
      refine add_tail ?_ R.ob R.ex R.dt g1 nd1 m1 hb1 ?_ ?_ ?_ ?_
      · intro b s₁ Q' q; cases b <;> first | exact wpAny_pure q | exact wpAny_rule q
      · first | (split <;> first | exact hf1 | exact SetTable.fits_plain_off hf1) | exact hf1
      · first | (split <;> exact hr1) | exact hr1
      · first | (split <;> exact hled) | exact hled
      · intro h' sb r; dsimp only; exact wpAny_pure (fin h' sb r)
    · refine wpAny_bind (wpAny_pure ?_)
      simp only [↓reduceIte]
      refine add_tail ?_ R.ob R.ex R.dt g1 nd1 m1 hb1 hf1 hr1 hled ?_
      · intro b s₁ Q' q; cases b <;> first | exact wpAny_pure q | exact wpAny_rule q
      · intro h' sb r; dsimp only; exact wpAny_pure (fin h' sb r)
end
end BZ
end
section
set_option Elab.async false
set_option linter.all false
set_option maxRecDepth 100000
set_option maxHeartbeats 3200000
namespace BZ
open PySem PySem.Spec PyProof.Rows L2

section
variable {P : Program} {w : World} {A : Around} {E : Value → Shared → Prop} {s : Shared} {a : Addr} {S : Key → Bool} {n : Nat}
theorem fresh_at {h : Heap} {a : Addr} (ho : h.get? a = some { cls := .type "set", dict := none, data := .set #[] 0 (.fresh 0 0 (!w.params.followText "set-order")) }) : SetX P w h a (fun _ => false) 0 :=
  ⟨_, #[], 0, _, ho, ⟨rfl, rfl, rfl⟩, rfl, (fun e he => by simp at he), (by simp), (fun k => by simp), (by decide), (by rfl), rfl, List.Pairwise.nil, by
    show _ ∨ (!w.params.followText "set-order") = true
    cases w.params.followText "set-order"
    · exact .inr rfl
    · exact .inl rfl⟩
def inK (ns : List Key) (j : Key) : Bool := ns.any fun i => decide (i = j)
theorem inK_iff {ns : List Key} {j : Key} : inK ns j = true ↔ j ∈ ns := by
  unfold inK
  rw [List.any_eq_true]
  exact ⟨fun ⟨x, h, e⟩ => of_decide_eq_true e ▸ h, fun h => ⟨j, h, decide_eq_true rfl⟩⟩
theorem updX {I : Addr} {fp wr : List Addr} {G : Array GenState → Array GenState → Prop} {n : Nat} {Pv : Nat → Value → Prop} {St : Nat → Shared → Prop} {R : Result → Shared → Prop}
    (W : WalksS P w A.in1 I fp wr G n Pv St) (Sa : Addr) (hSf : Sa ∉ fp) (ns : List Key) (hn : n = ns.length) (hb : ns.length + 1 < scanBound) (hval : ∀ i v, Pv i v → ∃ k, ns[i]? = some k ∧ (mk P w).is k v = true) :
    ∀ (k i : Nat) (s : Shared), n - i = k → i ≤ n → St i s → (∃ c, c ≤ i ∧ SetX P w s.heap Sa (inK (ns.take i)) c) →
      (∀ s' c, Moved (Sa :: wr) G s s' → SetX P w s'.heap Sa (inK ns) c → R (.ok (.ret .none)) s') →
      codeAny (model P w) A (.builtin "set.update.loop" ⟨[.ref Sa, .ref I], []⟩) R s := by
  have hSw : Sa ∉ wr := fun h => hSf (W.sub _ h)
  have hsub : ∀ b ∈ wr, b ∈ Sa :: wr := fun b hb => List.mem_cons_of_mem _ hb
  intro k
  induction k with
  | zero =>
    intro i s hk' hi hst ⟨c, hc, hS⟩ hR
    have hin : i = n := by omega
    subst hin
    refine codeAny_builtin F.entry_set_update_loop ?_
    rw [Around.under_plainId F.plain_set_update_loop _]
    show wpAny _ A.in1 (pyNext (.ref I) >>= _) _ _ s
    refine wpAny_bind (W.done s _ _ hst fun s' hm => ?_)
    show wpAny _ A.in1 (PySem.ret Value.none) _ _ s'
    have e : ns.take i = ns := List.take_of_length_le (by omega)
    rw [e] at hS
    exact wpAny_pure (hR s' c (hm.mono hsub) (hS.at fun o e => hm.heap Sa o hSw e))
  | succ k ih =>
    intro i s hk' hi hst ⟨c, hc, hS⟩ hR
    have hlt : i < n := by omega
    refine codeAny_builtin F.entry_set_update_loop ?_
    rw [Around.under_plainId F.plain_set_update_loop _]
    show wpAny _ A.in1 (pyNext (.ref I) >>= _) _ _ s
    refine wpAny_bind (W.item i s _ _ hlt hst fun v s' hP hst' hm => ?_)
    obtain ⟨z, hz, hv⟩ := hval i v hP
    have hS' : SetX P w s'.heap Sa (inK (ns.take i)) c := hS.at fun o e => hm.heap Sa o hSw e
    show wpAny _ A.in1 (holding [v] (setAdd Sa v) >>= _) _ _ s'
    refine wpAny_bind (wpAny_holding ?_)
    unfold setAdd
    refine wpAny_holding ?_
    refine wpAny_bind ((mk P w).pyHash (k := z) hv ?_)
    refine addX (s := { s' with toks := s'.toks + 1 }) hv hS' (by omega) fun h' hsb hS2 => ?_
    have hS3 : SetX P w h' Sa (inK (ns.take (i + 1))) (if inK (ns.take i) z = true then c else c + 1) := hS2.congr fun j => by
      rw [List.take_add_one, hz]
      unfold inK
      rw [List.any_append]
      simp only [Option.toList, List.any_cons, List.any_nil, Bool.or_false]
      congr 1
      exact decide_eq_decide.mpr ⟨fun e => e.symm, fun e => e.symm⟩
    have hc3 : (if inK (ns.take i) z = true then c else c + 1) ≤ i + 1 := by
      split <;> omega
    refine wpAny_pure ⟨plainId_quiet F.plain_set_update_loop _, ih (i + 1) _ (by omega) hlt (W.frame _ s' _ _ hst' (Nat.le_succ _) fun b hb o e => ?_) ⟨_, hc3, hS3⟩ fun s'' c2 hm'' hS'' => ?_⟩
    · rw [hsb.2 b (fun h : b = Sa => hSf (by rw [← h]; exact hb))]; exact e
    · refine hR s'' c2 (Moved.trans W.gtrans ((hm.mono hsub).then_heap (Nat.le_succ _) fun b o hb e => ?_) hm'') hS''
      rw [hsb.2 b (fun h : b = Sa => hb (by rw [h]; exact List.mem_cons_self))]; exact e
/-- set(xs), a list -/
theorem call_setX {l : Addr} {items : Array Value} (ns : List Key) {Q : Value → Shared → Prop} (hh : A.handled = none) (hl : s.heap.IsList l items) (hit : Paired (fun k v => (mk P w).is k v = true) ns items.toList) (hb : ns.length + 1 < scanBound)
    (h : ∀ (h' : Heap) (tk c : Nat), SetX P w h' s.heap.objs.size (inK ns) c → (∀ b o, s.heap.get? b = some o → h'.get? b = some o) → Q (.ref s.heap.objs.size) { s with heap := h', toks := tk }) :
    wpAny (model P w) A (call (.type "set") [.ref l]) Q E s := by
  have hisz : items.size = ns.length := by
    have q := paired_len hit
    rw [Array.length_toList] at q
    exact q.symm
  obtain ⟨c, tl, hmro⟩ := F.called_set.mro
  have hmade := F.called_set.made
  have hsub := F.called_set.sub
  refine wpAny_call (codeAny_of_tree ?_)
  show wpAny _ _ (callAny (.type "set") _) _ _ _
  refine wpAny_pure ⟨Code.quiet_builtin _ (by decide +kernel), codeAny_builtin F.entry_type_call ?_⟩
  rw [Around.under_plain (weight_type_call_type "set" [.ref l] []) rfl]
  have h1 := F.called_set.notType
  have h2 := F.called_set.canCreate
  have hct := F.typeCall_set_1 (.ref l)
  repeat (any_goals (first | assumption | wp_step))
  refine codeAny_mono (code_set_led1 (.ref l) (E := E) (Q₁ := fun obj s₁ => obj = .ref s.heap.objs.size ∧ s₁ = { s with heap := s.heap.push { cls := .type "set", dict := none, data := .set #[] 0 (.fresh 0 0 (!w.params.followText "set-order")) } }) ⟨rfl, rfl⟩) fun r s₁ hr => ?_
  cases r with
  | error e => exact hr
  | ok fl =>
    cases fl with
    | ret obj =>
      obtain ⟨rfl, rfl⟩ := hr
      have hS : (s.heap.push { cls := .type "set", dict := none, data := .set #[] 0 (.fresh 0 0 (!w.params.followText "set-order")) }).get? s.heap.objs.size = some { cls := .type "set", dict := none, data := .set #[] 0 (.fresh 0 0 (!w.params.followText "set-order")) } := Heap.get?_push_size _ rfl
      have hT : Shared.TypeIs { s with heap := s.heap.push { cls := .type "set", dict := none, data := .set #[] 0 (.fresh 0 0 (!w.params.followText "set-order")) } } (.ref s.heap.objs.size) "set" := ⟨_, hS, rfl⟩
      have hli := F.called_set.init.lookup
      have hbi := F.called_set.init.bind (.ref s.heap.objs.size)
      repeat (any_goals (first | assumption | wp_step))
      refine codeAny_mono (codeAny_call_builtin (R := wants (fun r s₂ => r = .none ∧ ∃ h' tk c, s₂ = { s with heap := h', toks := tk } ∧ SetX P w h' s.heap.objs.size (inK ns) c ∧
          (∀ b o, s.heap.get? b = some o → h'.get? b = some o)) E) F.called_set.init.plain F.entry_set_init (check_set_init_1 hT ?_)) fun r₂ s₂ hr₂ => ?_
      · obtain ⟨ol, hol, hcl, nl, hdl⟩ := hl
        obtain ⟨ocls, odict, odata, oslots⟩ := ol
        simp only at hcl hdl
        subst hcl; subst hdl
        have hol' : (s.heap.push { cls := .type "set", dict := none, data := .set #[] 0 (.fresh 0 0 (!w.params.followText "set-order")) }).get? l = some { cls := .type "list", dict := odict, data := .seq items nl, slots := oslots } := Heap.get?_push_of_some _ hol
        have hsls := F.sub_list_set
        have hslf := F.sub_list_frozenset
        have hne : (Value.type "list" == Value.type "dict") = false := by decide
        have hl1 : (s.heap.push { cls := .type "set", dict := none, data := .set #[] 0 (.fresh 0 0 (!w.params.followText "set-order")) }).IsList l items := ⟨_, hol', rfl, nl, rfl⟩
        unfold Builtin.«set.__init__» noKeywords Builtin.Frozenset.updateFrom
        generalize hPI : pyIter = PI
        wp_walk
        subst hPI
        refine wpAny_pyIter_list hl1 ?_
        refine wpAny_bind (wpAny_runValue ?_)
        have hlS : l < s.heap.objs.size := Heap.lt_size hol
        have hh3 : A.in1.in1.in1.handled = none := by simp [hh]
        have hz1 : (s.heap.push { cls := .type "set", dict := none, data := .set #[] 0 (.fresh 0 0 (!w.params.followText "set-order")) }).objs.size = s.heap.objs.size + 1 := Heap.size_push ..
        have hneI : l ≠ (s.heap.push { cls := .type "set", dict := none, data := .set #[] 0 (.fresh 0 0 (!w.params.followText "set-order")) }).objs.size := by rw [hz1]; exact Nat.ne_of_lt (Nat.lt_succ_of_lt hlS)
        have hSf : s.heap.objs.size ∉ [(s.heap.push { cls := .type "set", dict := none, data := .set #[] 0 (.fresh 0 0 (!w.params.followText "set-order")) }).objs.size, l] := by
          rw [hz1]; simp only [List.mem_cons, List.mem_singleton, List.not_mem_nil, or_false, not_or]
          exact ⟨Nat.ne_of_lt (Nat.lt_succ_self _), Nat.ne_of_gt hlS⟩
        have hval : ∀ (i : Nat) (v : Value), items[i]? = some v → ∃ k, ns[i]? = some k ∧ (mk P w).is k v = true := fun i v hv => by
          have hi : i < ns.length := by rw [← hisz]; exact (Array.getElem?_eq_some_iff.mp hv).1
          obtain ⟨u, e1, e2⟩ := paired_get hit (List.getElem?_eq_getElem hi)
          rw [Array.getElem?_toList, hv] at e1
          cases e1
          exact ⟨_, List.getElem?_eq_getElem hi, e2⟩
        refine updX ((Walks.list hh3 _ l hneI items).toS) s.heap.objs.size
          hSf ns hisz hb hval (items.size - 0) 0 _ (by omega) (Nat.zero_le _)
          ⟨⟨_, Heap.get?_push_size _ rfl, rfl, rfl⟩, (hl1.push _)⟩ ?hS0 ?hR
        case hS0 =>
          refine ⟨0, Nat.le_refl 0, (fresh_at ?_).congr fun k => rfl⟩
          exact Heap.get?_push_of_some _ hS
        case hR =>
          intro s' c' hm hS'
          obtain ⟨h', g2, d', tk', os'⟩ := s'
          have eg : g2 = s.gens := hm.gens
          have ed : d' = s.drawn := hm.drawn
          have eo : os' = s.os := hm.os
          subst eg; subst ed; subst eo
          show wpAny _ _ _ _ _ _
          refine wpAny_pure ?_
          show wpAny _ _ (PySem.ret Value.none) _ _ _
          refine wpAny_pure ⟨rfl, h', tk', c', rfl, hS', fun b o e => ?_⟩
          have hb0 : b < s.heap.objs.size := Heap.lt_size e
          have hb1 : b ≠ s.heap.objs.size := Nat.ne_of_lt hb0
          have hb2 : b ≠ (s.heap.push { cls := .type "set", dict := none, data := .set #[] 0 (.fresh 0 0 (!w.params.followText "set-order")) }).objs.size := by rw [hz1]; exact Nat.ne_of_lt (Nat.lt_succ_of_lt hb0)
          exact hm.heap b o (by simp only [List.mem_cons, List.mem_singleton, List.not_mem_nil, or_false, not_or]; exact ⟨hb1, hb2⟩) (Heap.get?_push_of_some _ (Heap.get?_push_of_some _ e))
      · cases r₂ with
        | error e => exact hr₂
        | ok fl₂ =>
          cases fl₂ with
          | ret r =>
            obtain ⟨rfl, h', tk, c', rfl, hS', hk'⟩ := hr₂
            repeat (any_goals (first | assumption | wp_step))
            exact h _ _ _ hS' hk'
          | _ => exact hr₂.elim
    | _ => exact hr.elim
end
end BZ
end
section
set_option Elab.async false
set_option linter.all false
set_option maxRecDepth 100000
set_option maxHeartbeats 1000000
namespace BZ
open PySem PySem.Spec PyProof.Rows L2

/-! ## sorting -/
section
variable {α : Type} (lt : α → α → Bool)
def ins (x : α) : List α → List α
  | [] => [x]
  | y :: r => if lt y x then y :: ins x r else x :: y :: r
def srt : List α → List α
  | [] => []
  | x :: r => ins lt x (srt r)
theorem ins_perm (x : α) : ∀ l : List α, (ins lt x l).Perm (x :: l)
  | [] => List.Perm.refl _
  | y :: r => by
    unfold ins
    split
    · exact (List.Perm.cons y (ins_perm x r)).trans (List.Perm.swap x y r)
    · exact List.Perm.refl _
theorem srt_perm : ∀ l : List α, (srt lt l).Perm l
  | [] => List.Perm.refl _
  | x :: r => (ins_perm lt x _).trans (List.Perm.cons x (srt_perm r))
abbrev Le (a b : α) : Prop := lt b a = false
theorem ins_sorted (asym : ∀ a b, lt a b = true → lt b a = false) (tr : ∀ a b c, Le lt a b → Le lt b c → Le lt a c) (x : α) : ∀ l : List α, l.Pairwise (Le lt) → (ins lt x l).Pairwise (Le lt)
  | [], _ => List.pairwise_singleton _ _
  | y :: r, h => by
    obtain ⟨h1, h2⟩ := List.pairwise_cons.mp h
    unfold ins
    split
    · rename_i q
      refine List.pairwise_cons.mpr ⟨fun z hz => ?_, ins_sorted asym tr x r h2⟩
      rcases List.mem_cons.mp ((ins_perm lt x r).mem_iff.mp hz) with rfl | hz
      · exact asym _ _ q
      · exact h1 z hz
    · rename_i q
      have q : Le lt x y := by simpa using q
      refine List.pairwise_cons.mpr ⟨fun z hz => ?_, h⟩
      rcases List.mem_cons.mp hz with rfl | hz
      · exact q
      · exact tr _ _ _ q (h1 z hz)
theorem srt_sorted (asym : ∀ a b, lt a b = true → lt b a = false) (tr : ∀ a b c, Le lt a b → Le lt b c → Le lt a c) : ∀ l : List α, (srt lt l).Pairwise (Le lt)
  | [] => List.Pairwise.nil
  | x :: r => ins_sorted lt asym tr x _ (srt_sorted asym tr r)
theorem sorted_unique (tot : ∀ a b, lt a b = false → lt b a = false → a = b) : ∀ l m : List α, l.Pairwise (Le lt) → m.Pairwise (Le lt) → l.Perm m → l = m
  | [], m, _, _, p => (List.Perm.nil_eq p)
  | a :: l, [], _, _, p => absurd p.length_eq (by simp)
  | a :: l, b :: m, h1, h2, p => by
    have e : a = b := by
      have ha : a ∈ b :: m := p.mem_iff.mp List.mem_cons_self
      have hb : b ∈ a :: l := p.mem_iff.mpr List.mem_cons_self
      rcases List.mem_cons.mp ha with q | ha
      · exact q
      · rcases List.mem_cons.mp hb with q | hb
        · exact q.symm
        · exact tot _ _ ((List.pairwise_cons.mp h2).1 a ha) ((List.pairwise_cons.mp h1).1 b hb)
    subst e
    rw [sorted_unique tot l m (List.pairwise_cons.mp h1).2 (List.pairwise_cons.mp h2).2 (List.Perm.cons_inv p)]
theorem srt_eq (asym : ∀ a b, lt a b = true → lt b a = false) (tr : ∀ a b c, Le lt a b → Le lt b c → Le lt a c) (tot : ∀ a b, lt a b = false → lt b a = false → a = b) {l m : List α} (h : l.Pairwise (Le lt)) (p : l.Perm m) : l = srt lt m :=
  sorted_unique lt tot _ _ h (srt_sorted lt asym tr m) (p.trans (srt_perm lt m).symm)
end
def ltS (a b : Str) : Bool := ltCps a.cps.toList b.cps.toList
theorem ltCps_asym : ∀ a b : List Nat, ltCps a b = true → ltCps b a = false
  | [], [], h => by cases h
  | [], _ :: _, _ => rfl
  | _ :: _, [], h => by cases h
  | x :: a, y :: b, h => by
    unfold ltCps at h ⊢
    have h' : x < y ∨ (x = y ∧ ltCps a b = true) := by simpa using h
    clear h
    rcases h' with h | ⟨rfl, h⟩
    · have h1 : ¬ y < x := by omega
      have h2 : (y == x) = false := by simpa using (by omega : ¬ y = x)
      simp [h1, h2]
    · have := ltCps_asym a b h
      simp [this]
theorem ltCps_tot : ∀ a b : List Nat, ltCps a b = false → ltCps b a = false → a = b
  | [], [], _, _ => rfl
  | [], _ :: _, h, _ => by cases h
  | _ :: _, [], _, h => by cases h
  | x :: a, y :: b, h1, h2 => by
    unfold ltCps at h1 h2
    have h1 : y ≤ x ∧ (x = y → ltCps a b = false) := by simpa using h1
    have h2 : x ≤ y ∧ (y = x → ltCps b a = false) := by simpa using h2
    have e : x = y := by omega
    rw [e, ltCps_tot a b (h1.2 e) (h2.2 e.symm)]
theorem ltCps_tr : ∀ a b c : List Nat, ltCps b a = false → ltCps c b = false → ltCps c a = false
  | [], _, [], _, _ => rfl
  | [], [], _ :: _, _, _ => rfl
  | [], _ :: _, _ :: _, _, _ => rfl
  | _ :: _, [], _, h, _ => by cases h
  | _ :: _, _ :: _, [], _, h => by cases h
  | x :: a, y :: b, z :: c, h1, h2 => by
    unfold ltCps at h1 h2 ⊢
    have h1 : x ≤ y ∧ (y = x → ltCps b a = false) := by simpa using h1
    have h2 : y ≤ z ∧ (z = y → ltCps c b = false) := by simpa using h2
    have : x ≤ z ∧ (z = x → ltCps c a = false) := ⟨by omega, fun e => ltCps_tr a b c (h1.2 (by omega)) (h2.2 (by omega))⟩
    simpa using this
theorem str_ext {a b : Str} (h : a.cps.toList = b.cps.toList) : a = b := by
  cases a; cases b
  congr
  exact Array.toList_inj.mp h
theorem srtS_eq {l m : List Str} (h : l.Pairwise (Le ltS)) (p : l.Perm m) : l = srt ltS m :=
  srt_eq ltS (fun a b => ltCps_asym _ _) (fun a b c h1 h2 => ltCps_tr _ _ _ h1 h2) (fun a b h1 h2 => str_ext (ltCps_tot _ _ h1 h2)) h p
def ltI (a b : Int) : Bool := decide (a < b)
theorem srtI_eq {l m : List Int} (h : l.Pairwise (Le ltI)) (p : l.Perm m) : l = srt ltI m :=
  srt_eq ltI (fun a b h => by unfold ltI at *; simp at *; omega) (fun a b c h1 h2 => by unfold Le ltI at *; simp at *; omega) (fun a b h1 h2 => by unfold ltI at *; simp at *; omega) h p
theorem rising_pw : ∀ (l : List Str) (p : Str), risingS p l = true → (p :: l).Pairwise (Le ltS)
  | [], p, _ => List.pairwise_singleton _ _
  | x :: r, p, h => by
    unfold risingS at h
    have h : ltCps x.cps.toList p.cps.toList = false ∧ risingS x r = true := by simpa using h
    have ih := rising_pw r x h.2
    refine List.pairwise_cons.mpr ⟨fun z hz => ?_, ih⟩
    rcases List.mem_cons.mp hz with rfl | hz
    · exact h.1
    · exact ltCps_tr _ _ _ h.1 ((List.pairwise_cons.mp ih).1 z hz)
theorem sortedS_pw {l : List Str} (h : sortedS l = true) : l.Pairwise (Le ltS) := by
  cases l with
  | nil => exact List.Pairwise.nil
  | cons x r => exact rising_pw r x h
/-- each once -/
def uniq {α : Type} [DecidableEq α] : List α → List α
  | [] => []
  | x :: r => if r.any (fun y => decide (y = x)) then uniq r else x :: uniq r
section
variable {α : Type} [DecidableEq α]
theorem any_iff {l : List α} {x : α} : l.any (fun y => decide (y = x)) = true ↔ x ∈ l := by
  rw [List.any_eq_true]
  exact ⟨fun ⟨y, h, e⟩ => of_decide_eq_true e ▸ h, fun h => ⟨x, h, decide_eq_true rfl⟩⟩
theorem mem_uniq {x : α} : ∀ {l : List α}, x ∈ uniq l ↔ x ∈ l
  | [] => Iff.rfl
  | y :: r => by
    unfold uniq
    split
    · rename_i q
      rw [mem_uniq, List.mem_cons]
      exact ⟨.inr, fun h => h.elim (fun e => e ▸ any_iff.mp q) id⟩
    · rw [List.mem_cons, List.mem_cons, mem_uniq]
theorem nodup_uniq : ∀ {l : List α}, (uniq l).Nodup
  | [] => List.Pairwise.nil
  | y :: r => by
    unfold uniq
    split
    · exact nodup_uniq
    · rename_i q
      exact List.nodup_cons.mpr ⟨fun h => q (any_iff.mpr (mem_uniq.mp h)), nodup_uniq⟩
end
end BZ
end
section
set_option Elab.async false
set_option linter.all false
set_option maxRecDepth 100000
set_option maxHeartbeats 1000000
namespace BZ
open PySem PySem.Spec PyProof.Rows L2

section
variable {P : Program} {w : World} {A : Around} {E : Value → Shared → Prop} {s : Shared} {a : Addr} {n : Nat}
theorem strs_of_vals : ∀ (vs : List Value), (∀ v ∈ vs, ∃ x t, v = Value.str x t) → StrsAre vs (vs.map strOf) := fun vs h => strsAre_map vs h
theorem setX_keys {ks : List Key} {o : Obj} {es : Array (Int × Value)} {ep : Nat} {t : SetTable} {h : Heap} (R : SetM P w h a (inK ks) n o es ep t) : (es.toList.map kyOf).Perm (uniq ks) :=
  (List.perm_ext_iff_of_nodup R.nd nodup_uniq).mpr fun k => by rw [← R.mem k, inK_iff, mem_uniq]
theorem setX_size {ks : List Key} {h : Heap} (R : SetX P w h a (inK ks) n) : n = (uniq ks).length := by
  obtain ⟨o, es, ep, t, R⟩ := R
  have := (setX_keys R).length_eq
  rw [List.length_map, Array.length_toList, R.size] at this
  exact this
theorem uniq_map {α β : Type} [DecidableEq α] [DecidableEq β] {f : α → β} (hf : ∀ a b, f a = f b → a = b) : ∀ l : List α, uniq (l.map f) = (uniq l).map f
  | [] => rfl
  | x :: r => by
    rw [List.map_cons]
    unfold uniq
    have e : (r.map f).any (fun y => decide (y = f x)) = r.any (fun y => decide (y = x)) := by
      rw [List.any_map]
      congr 1
      funext y
      exact decide_eq_decide.mpr ⟨hf _ _, fun e => e ▸ rfl⟩
    rw [e, uniq_map hf r]
    split <;> rfl
def ofInr : Key → Str
  | .inr x => x
  | .inl _ => ⟨#[]⟩
theorem ofInr_map : ∀ l : List Str, (l.map (Sum.inr : Str → Key)).map ofInr = l
  | [] => rfl
  | x :: r => by
    rw [List.map_cons, List.map_cons, ofInr_map r]
    rfl
theorem sorted_setS {ss : List Str} {Q : Value → Shared → Prop} (R : SetX P w s.heap a (inK (ss.map .inr)) n) (hh : A.handled = none) (hlen : ss.length < 16777216)
    (hQ : ∀ s' p (out : Array Value) (c : Nat), (∀ b o, s.heap.get? b = some o → s'.heap.get? b = some o) → s'.gens = s.gens → s'.os = s.os → s.heap.objs.size ≤ p →
      s'.heap.get? p = some (seqObj "list" out c) → StrsAre out.toList (srt ltS (uniq ss)) → Q (.ref p) s') :
    wpAny (model P w) A (call (.builtin "sorted") [.ref a]) Q E s := by
  have hn := setX_size R
  obtain ⟨o, es, ep, t, R⟩ := R
  have hk := setX_keys R
  rw [uniq_map (f := (Sum.inr : Str → Key)) (fun a b e => Sum.inr.inj e)] at hk hn
  refine Calls.call_function_entry kind_sorted plain_sorted entry_sorted (args_sorted1 _) ?_
  unfold Builtin.«sorted»
  refine wpAny_bind (m := checkCount "sorted" 1 1 _) (wpAny_pure ?_)
  refine wpAny_bind (collect_set (A := A.in1) hh ⟨o, R.ob, R.ex.1, R.dt⟩ R.fits R.bd R.ris R.led fun s1 vs k1 hz g1 o1 pm => ?_)
  have hvs : ∀ v ∈ vs, ∃ x t, v = Value.str x t := fun v hv => by
    obtain ⟨e, he, q⟩ := List.mem_map.mp (pm.mem_iff.mp hv)
    obtain ⟨k, h1, h2⟩ := R.good e he
    rcases keyIs_shape (show keyIs k e.2 = true from h1) with ⟨i, t, rfl, e2⟩ | ⟨x, t, rfl, e2⟩
    · have : (Sum.inl i : Key) ∈ es.toList.map kyOf := List.mem_map.mpr ⟨e, he, is_ky (h := e.1) h1⟩
      have := hk.mem_iff.mp this
      obtain ⟨y, _, z⟩ := List.mem_map.mp this
      cases z
    · exact ⟨x, t, by rw [← q]; exact e2⟩
  have hS := strs_of_vals vs hvs
  have pk : ((vs.map strOf).map (Sum.inr : Str → Key)).Perm ((uniq ss).map Sum.inr) := by
    refine List.Perm.trans ?_ hk
    have e : (vs.map strOf).map (Sum.inr : Str → Key) = vs.map fun v => kyOf (0, v) := by
      rw [List.map_map]
      refine List.map_congr_left fun v hv => ?_
      obtain ⟨x, t, rfl⟩ := hvs v hv
      rfl
    have e2 : es.toList.map kyOf = (es.toList.map (·.2)).map fun v => kyOf (0, v) := by rw [List.map_map] <;> rfl
    rw [e, e2]
    exact pm.map _
  have ps : (vs.map strOf).Perm (uniq ss) := by
    have q := pk.map ofInr
    rw [ofInr_map, ofInr_map] at q
    exact q
  have ul : ∀ l : List Str, (uniq l).length ≤ l.length := fun l => by
    induction l with
    | nil => exact Nat.le_refl _
    | cons x r ih =>
      unfold uniq
      split
      · exact Nat.le_succ_of_le ih
      · exact Nat.succ_le_succ ih
  have hvl : vs.length ≤ sizeLine := by
    have e := ps.length_eq
    rw [List.length_map] at e
    have := ul ss
    rw [sizeLine_eq]
    omega
  refine wpAny_bind (wpAny_newList ?_ hvl)
  have hoL : (s1.heap.push (seqObj "list" vs.toArray 0)).get? s1.heap.objs.size = some (seqObj "list" vs.toArray 0) := Heap.get?_push_size _ rfl
  refine wpAny_bind (wpAny_holding (wpAny_call_entry slot_list_sort ⟨_, hoL, rfl⟩ entry_list_sort
    (list_sort_treeKAny strKind_oneLt hoL hS.keysOf (fun v₁ v₂ rest e => keyKind_strs (by rw [← e]; exact hS)) hvl fun st' hp hs => ⟨_, rfl, ?_⟩) (args_list_sort _)))
  obtain ⟨ss', h1, h2, h3⟩ := sorted_out_str hS hp hs
  have e : ss' = srt ltS (uniq ss) := srtS_eq (sortedS_pw h3) (h2.trans ps)
  subst e
  obtain ⟨c, hc⟩ := sortedHeap_at (vs := vs) (out := (arrOf st').map (·.2)) hoL
  refine wpAny_pure ⟨_, rfl, hQ _ s1.heap.objs.size _ c (fun b u e => ?_) g1 o1 hz hc h1⟩
  have q := k1 b u e
  have hlt := Heap.lt_size q
  show (sortedHeap (s1.heap.push (seqObj "list" vs.toArray 0)) s1.heap.objs.size vs _).get? b = some u
  rw [sortedHeap_old (Nat.ne_of_lt hlt) (by rw [size_push']; exact Nat.lt_succ_of_lt hlt)]
  exact Heap.get?_push_of_some _ q
end
section
variable {X : Cx} {F : Frm} {Wx : WX} {e a b c : Expr} {pos p q : Pos} {ma : M D}
theorem keys_paired {ks : List Key} {its : List Value} (r : Vals (ks.map kV) its) : Paired (fun k v => (mk X.prog X.w).is k v = true) ks its := by
  induction ks generalizing its with
  | nil => cases r; exact .nil
  | cons k ks ih =>
    cases r with
    | cons r t => exact .cons (kV_is r) (ih t)
def tLenSetK (K : PySem.W.Frag) (ta : TE) : TE := fun σ H Q => ta σ H fun x H1 => ∃ (l : Addr) (ks : List Key), x = V.ref l ∧ SqL K H1 l (ks.map kV) ∧ ks.length < 1000 ∧ Q (.int ((uniq ks).length : Nat)) H1
theorem pe_lenSetK {ta : TE} {p2 : Pos} (hc : X.calm = true) (hg : Gl X "len") (hm : X.mg "len" = none) (hg2 : Gl X "set") (hm2 : X.mg "set" = none) (ha : PE X a ta)
    (na : starEach [a] X.env = (false, eval a X.env) :: starEach [] X.env := by rfl) : PE X (.Call (.Name "len" p) [.Call (.Name "set" p2) [a] [] q] [] pos) (tLenSetK X.K ta) := by
  refine ⟨fun pins s σ H Q I h => ?_⟩
  refine Call_ (ld_blt I hg hm PySem.boot_len ?_)
  refine PyProof.Rows.callWith_builtin1 (PyProof.Rows.args_cons ?_ rfl) rfl rfl
  refine Call_ (ld_blt I hg2 hm2 PyProof.Rows.boot_set ?_)
  refine PyProof.Rows.callWith_type1 (PyProof.Rows.args_cons (thn (ha.run pins s σ H _ I h) fun v s1 ⟨x, H1, I1, r1, q1⟩ => PyProof.Rows.args_nil ?_) na) na rfl
  obtain ⟨l, ks, rfl, hq, h1, q1⟩ := q1
  cases r1
  obtain ⟨its, r, pl, hz⟩ := I1.list hq
  refine call_setX (P := X.prog) (w := X.w) ks (I1.ok.hd hc) pl.isList (by simpa using keys_paired (X := X) r) (by unfold scanBound; omega) fun h' tk c R k => ?_
  have hn := setX_size R
  refine PyProof.Rows.args_nil ?_
  obtain ⟨o, es, ep, t, R⟩ := R
  have I2 : Inv X pins σ H1 { s1 with heap := h', toks := tk } := I1.kept fun b o e => k b o e
  have hb := R.bd
  refine call_len_set R.ob R.ex R.dt R.fits (by unfold scanBound at hb; omega) ⟨.int ((uniq ks).length : Nat), H1, I2.tok _, ⟨_, by rw [R.size, hn]⟩, q1⟩
def tSortSetS (K : PySem.W.Frag) (ta : TE) : TE := fun σ H Q => ta σ H fun x H1 => ∃ (l : Addr) (ss : List Str), x = V.ref l ∧ SqL K H1 l (ss.map V.str) ∧ ss.length < 1000 ∧ ∀ p, H1 p = none → Q (.ref p) (upd H1 p (.lst ((srt ltS (uniq ss)).map V.str)))
theorem srt_len {α : Type} {lt : α → α → Bool} {l : List α} : (srt lt l).length = l.length := (srt_perm lt l).length_eq
theorem uniq_len {α : Type} [DecidableEq α] : ∀ l : List α, (uniq l).length ≤ l.length
  | [] => Nat.le_refl _
  | x :: r => by
    unfold uniq
    split
    · exact Nat.le_succ_of_le (uniq_len r)
    · exact Nat.succ_le_succ (uniq_len r)
theorem pe_sortSetS {ta : TE} {p2 : Pos} (hc : X.calm = true) (hg : Gl X "sorted") (hm : X.mg "sorted" = none) (hg2 : Gl X "set") (hm2 : X.mg "set" = none) (ha : PE X a ta)
    (na : starEach [a] X.env = (false, eval a X.env) :: starEach [] X.env := by rfl) : PE X (.Call (.Name "sorted" p) [.Call (.Name "set" p2) [a] [] q] [] pos) (tSortSetS X.K ta) := by
  refine ⟨fun pins s σ H Q I h => ?_⟩
  refine Call_ (ld_blt I hg hm (show bootBuiltins "sorted" = some (.builtin "sorted") from rfl) ?_)
  refine PyProof.Rows.callWith_builtin1 (PyProof.Rows.args_cons ?_ rfl) rfl rfl
  refine Call_ (ld_blt I hg2 hm2 PyProof.Rows.boot_set ?_)
  refine PyProof.Rows.callWith_type1 (PyProof.Rows.args_cons (thn (ha.run pins s σ H _ I h) fun v s1 ⟨x, H1, I1, r1, q1⟩ => PyProof.Rows.args_nil ?_) na) na rfl
  obtain ⟨l, ss, rfl, hq, h1, q1⟩ := q1
  cases r1
  obtain ⟨its, r, pl, hz⟩ := I1.list hq
  have r' : Vals ((ss.map (Sum.inr : Str → Key)).map kV) its := by
    rw [List.map_map]
    exact r
  refine call_setX (P := X.prog) (w := X.w) (ss.map .inr) (I1.ok.hd hc) pl.isList (by simpa using keys_paired (X := X) r') (by rw [List.length_map]; unfold scanBound; omega) fun h' tk c R k => ?_
  refine PyProof.Rows.args_nil ?_
  have I2 : Inv X pins σ H1 { s1 with heap := h', toks := tk } := I1.kept fun b o e => k b o e
  refine sorted_setS R (I1.ok.hd hc) (by omega) fun s' p out c k2 g o hp hg2 hS => ?_
  have hn : H1 p = none := I2.hok.fresh hp
  have hv := vals_of_strs hS
  have hlen : ((srt ltS (uniq ss)).map V.str).length ≤ sizeLine := by
    rw [List.length_map, srt_len, sizeLine_eq]
    have := uniq_len ss
    omega
  have J : Inv X pins σ (upd H1 p (.lst ((srt ltS (uniq ss)).map V.str))) { ({ s1 with heap := h', toks := tk } : Shared) with heap := s'.heap, gens := s'.gens, drawn := s'.drawn, toks := s'.toks } :=
    I2.call (ch := []) (Un.laid k2 hp hn) (I2.hok.laid k2 hp ⟨hlen, out.toList, c, hv, hg2⟩) (by rw [g]; exact I2.bare) (fun _ z => nomatch z)
  have e : s' = { s1 with heap := s'.heap, gens := s'.gens, drawn := s'.drawn, toks := s'.toks } := by
    cases s'
    cases s1
    cases o
    rfl
  rw [e]
  exact ⟨.ref p, _, J, rfl, q1 p hn⟩
/-! as data -/
def keyL : List D → Option (List Key) := keysD
def lenSetD : D → Option D
  | .lst l => (match keysD l with
    | some ks => if ks.length < 1000 then some (.int ((uniq ks).length : Nat)) else none
    | none => none)
  | _ => none
theorem keysD_vals {K : Kw} {H G : Hp} {α : Al} (s : ∀ a o, G a = some o → H a = some o) : ∀ {l : List D} {ks : List Key} {xs : List V}, keysD l = some ks → RepL K G α l xs → xs = ks.map kV
  | [], ks, xs, h, r => by
    unfold keysD at h
    cases h
    unfold RepL at r
    exact r
  | d :: l, ks, xs, h, r => by
    obtain ⟨k, r0, h1, h2, rfl⟩ := keysD_cons h
    unfold RepL at r
    obtain ⟨x, xs', rfl, r1, r2⟩ := r
    rw [rep_key (H := H) h1 (RepB.of s r1), keysD_vals s h2 r2]
    rfl
theorem pd_lenSet {p2 : Pos} (hc : X.calm = true) (hg : Gl X "len") (hm : X.mg "len" = none) (hg2 : Gl X "set") (hm2 : X.mg "set" = none) (ha : PD X F Wx a ma) (na : starEach [a] X.env = (false, eval a X.env) :: starEach [] X.env := by rfl) :
    PD X F Wx (.Call (.Name "len" p) [.Call (.Name "set" p2) [a] [] q] [] pos) (do let x ← ma; op1 lenSetD x) :=
  PE.imp' (pe_lenSetK hc hg hm hg2 hm2 ha na) fun σ H Q ⟨ρ, G, α, w, h⟩ => stepE PV.anti w h fun x ρ1 v H1 G1 α1 w1 x1 r1 h1 => by
    obtain ⟨d, k, e1, e2, q⟩ := op1_ok h1
    unfold lenSetD at e2
    split at e2
    · split at e2
      · rename_i ks hk
        split at e2
        · rename_i hz
          cases e2
          obtain ⟨l, xs, rfl, h2, r2⟩ := w1.look r1 e1
          exact ⟨l, ks, rfl, by rw [← keysD_vals w1.sub hk r2]; exact SqL.of h2, hz, q.int w1⟩
        · cases e2
      · cases e2
    · cases e2
def sortSetD : D → Option D
  | .lst l => (match strsD l with
    | some ss => if ss.length < 1000 then some (.lst ((srt ltS (uniq ss)).map .str)) else none
    | none => none)
  | _ => none
theorem repL_strs {K : Kw} {G : Hp} {α : Al} : ∀ l : List Str, RepL K G α (l.map .str) (l.map V.str)
  | [] => RepL.nil
  | x :: r => RepL.cons (by unfold Rep; rfl) (repL_strs r)
theorem pd_sortSet {p2 : Pos} (hc : X.calm = true) (hg : Gl X "sorted") (hm : X.mg "sorted" = none) (hg2 : Gl X "set") (hm2 : X.mg "set" = none) (ha : PD X F Wx a ma) (na : starEach [a] X.env = (false, eval a X.env) :: starEach [] X.env := by rfl) :
    PD X F Wx (.Call (.Name "sorted" p) [.Call (.Name "set" p2) [a] [] q] [] pos) (do let x ← ma; op1 sortSetD x) :=
  PE.imp' (pe_sortSetS hc hg hm hg2 hm2 ha na) fun σ H Q ⟨ρ, G, α, w, h⟩ => stepE PV.anti w h fun x ρ1 v H1 G1 α1 w1 x1 r1 h1 => by
    obtain ⟨d, k, e1, e2, q⟩ := op1_ok h1
    unfold sortSetD at e2
    split at e2
    · split at e2
      · rename_i ss hk
        split at e2
        · rename_i hz
          cases e2
          obtain ⟨l, xs, rfl, h2, r2⟩ := w1.look r1 e1
          exact ⟨l, ss, rfl, by rw [← strsD_ok hk r2]; exact SqL.of h2, hz, q.newL w1 (repL_strs _)⟩
        · cases e2
      · cases e2
    · cases e2
end
end BZ
end
section
set_option Elab.async false
set_option linter.all false
set_option maxRecDepth 100000
set_option maxHeartbeats 1000000
namespace BZ
open PySem PySem.Spec PyProof.Rows L2

/-! ## the combinators as the printed terms name them -/
abbrev eBin (f : D → D → Option D) (a b : M D) : M D := do let x ← a; let y ← b; op2 f x y
abbrev eOp1 (f : D → Option D) (a : M D) : M D := do let x ← a; op1 f x
abbrev eTup (ms : M (List D)) : M D := ms >>= mkTup
abbrev eLst (ms : M (List D)) : M D := ms >>= mkLst
abbrev eLstF (ms : M (List D)) : M S := ms >>= mkLstF
abbrev eNot (a : M D) : M D := do let x ← a; let k ← truth x; ret (.bl (!k))
abbrev eAnd (a b : M D) : M D := do let x ← a; let k ← truth x; if k = true then b else ret x
abbrev eOr (a b : M D) : M D := do let x ← a; let k ← truth x; if k = true then ret x else b
abbrev eIf (c : M Bool) (a b : M D) : M D := do let k ← c; if k = true then a else b
abbrev eChn (f f' : D → D → Option D) (a b c : M D) : M D := do let x ← a; let y ← b; let z ← op2 f x y; let k ← asB z; if k = true then (do let t ← c; op2 f' y t) else ret (.bl false)
abbrev eFn (f : List D → Option D) (ms : M (List D)) : M D := do let xs ← ms; opN f xs
abbrev eMet (T : String) (f : D → List D → Option D) (o : M D) (ms : M (List D)) : M D := do let x ← o; kindOk T x; let xs ← ms; opM f x xs
abbrev eGet (o a b : M D) : M D := do let x ← o; isDct x; let k ← a; let z ← b; getM x k z
abbrev eGet1 (o a : M D) : M D := do let x ← o; isDct x; let k ← a; getM x k .non
abbrev eSl (a : M D) (l u : M (Option Int)) : M D := do let x ← a; let l ← l; let u ← u; slD x l u
abbrev oSm (a : M D) : M (Option Int) := a >>= asI
abbrev oNo : M (Option Int) := ret none
abbrev eVal (m : M S) : M D := do let s ← m; unS s
abbrev eFr (m : M D) : M S := do let d ← m; toS d
abbrev fCall (np : Nat) (f : Fn) (ms : M (List D)) : M S := ms >>= callM np f
abbrev fLc (t : Tg) (vs : List Nat) (m : M (List D)) (c : M Bool) (e : M D) : M S := m >>= compS (turn t vs c e)
abbrev eGen (stp : Bool) (t : Tg) (vs : List Nat) (m : M (List D)) (e : M D) : M D := m >>= genS stp t vs e
abbrev aCons (a : M D) (ms : M (List D)) : M (List D) := do let d ← a; let ds ← ms; ret (d :: ds)
abbrev aNil : M (List D) := ret []
abbrev tCmp (f : D → D → Option D) (a b : M D) : M Bool := do let x ← a; let y ← b; let z ← op2 f x y; asB z
abbrev tTru (a : M D) : M Bool := do let x ← a; truth x
abbrev tNot (a : M Bool) : M Bool := do let k ← a; ret (!k)
abbrev tAnd (a b : M Bool) : M Bool := do let k ← a; if k = true then b else ret false
abbrev tOr (a b : M Bool) : M Bool := do let k ← a; if k = true then ret true else b
abbrev iSeq (a : M D) : M (List D) := a >>= walkD
abbrev iRng1 (ms : M (List D)) : M (List D) := ms >>= range1D
abbrev iRng2 (ms : M (List D)) : M (List D) := ms >>= range2D
abbrev sExpr (a : M D) : SM := sBind a fun _ => sNext
abbrev sRet (a : M D) : SM := sBind a retD
abbrev sRetF (a : M S) : SM := sBind a fun s ρ => .rt s ρ
abbrev sSet (i : Nat) (a : M D) : SM := sBind a (setD i)
abbrev sSetF (i : Nat) (a : M S) : SM := sBind a (setS i)
abbrev sIf (c : M Bool) (a b : SM) : SM := sBind c fun t => if t = true then a else b
abbrev sFor (t : Tg) (m : M (List D)) (b : SM) : SM := sBind m (forL t b)
abbrev sAsg (t : Tg) (a : M D) : SM := sBind a (tgS t)
abbrev sAsg2 (t u : Tg) (a : M D) : SM := sBind a fun d => sSeq (tgS t d) (tgS u d)
abbrev sPar (i j : Nat) (ms : M (List D)) : SM := sBind ms (parS i j)
abbrev sPar3 (i j l : Nat) (ms : M (List D)) : SM := sBind ms (par3S i j l)
abbrev sPut (o k v : M D) : SM := sBind v fun v => sBind o fun x => sBind k fun k => putAt x k v
/-- a def that may be called by its name, in any context of the law -/
structure CalG (P : Program) (w : World) (K : PySem.W.Frag) (mg : Str → Option Value) (base : Heap) (T : Addr → Prop) (CX : CXT) (k : Nat) (x : Str) (np : Nat) (f : Fn) : Prop where
  ex : ∃ (fa : Addr) (fd : FuncData) (ps : List Str), FnOk P w K mg base CX k fa fd ps (spD T ⟨K, w⟩ mg np f) ∧ mg x = some (.ref fa) ∧ PySem.W.keepIn K (.ref fa) = true ∧ Binds K fd ps []
/-- a name of the module that stands for data -/
structure GlobG (w : World) (K : PySem.W.Frag) (mg : Str → Option Value) (x : Str) (d : D) : Prop where
  ex : ∃ (v : V) (u : Value), mg x = some u ∧ L2.RelV v u ∧ ∀ G α, Rep ⟨K, w⟩ G α d v
section
variable {X : Cx} {F : Frm} {Wx : WX} {e a b c tg iter elt o : Expr} {es ifs : List Expr} {pos p tpos apos cpos p2 : Pos} {ma mb mc mo mk mv : M D} {mf : M S} {ms : M (List D)} {sts sts' : List Stmt} {st : Stmt} {m : SM}
theorem CalG.mono {P : Program} {w : World} {K : PySem.W.Frag} {mg : Str → Option Value} {base : Heap} {T : Addr → Prop} {CX : CXT} {k j : Nat} {x : Str} {np : Nat} {f : Fn} (C : CalG P w K mg base T CX k x np f) (h : k ≤ j) : CalG P w K mg base T CX j x np f := by
  obtain ⟨fa, fd, ps, h1, h2⟩ := C.ex
  exact ⟨fa, fd, ps, h1.mono h, h2⟩
theorem pc {k np : Nat} {x : Str} {f : Fn} (C : CalG X.prog X.w X.K X.mg X.base F.T CX0 k x np f) (hr : Room k X.A) (hg : Gl X x) (ha : PDA X F Wx (e :: es) ms)
    (hdb : (x == ("__debug__" : Str)) = false := by decide) (he : starEach (e :: es) X.env = (false, eval e X.env) :: starEach es X.env := by rfl) (hpl : (backTo pos (starEach es X.env)).any (·.1) = false := by rfl) :
    PDF X F Wx (.Call (.Name x p) (e :: es) [] pos) (fCall np f ms) :=
  pdf_call (CX := CX0) ⟨C.ex⟩ hr (fun σ pins H s e s' I h => h.elim) hg ha hdb he hpl
theorem pc0 {k : Nat} {x : Str} {f : Fn} (C : CalG X.prog X.w X.K X.mg X.base F.T CX0 k x 0 f) (hr : Room k X.A) (hg : Gl X x) (hdb : (x == ("__debug__" : Str)) = false := by decide) :
    PDF X F Wx (.Call (.Name x p) [] [] pos) (callM0 f) :=
  pdf_call0 (CX := CX0) ⟨C.ex⟩ hr (fun pins σ H s e s' I h => h.elim) hg hdb
theorem pgl {x : Str} {d : D} (h : GlobG X.w X.K X.mg x d) (hg : Gl X x) (hd : (x == ("__debug__" : Str)) = false := by decide) : PD X F Wx (.Name x pos) (ret d) := by
  obtain ⟨v, u, h1, h2, h3⟩ := h.ex
  exact pd_const (pe_glob hg h1 h2 hd) h3
theorem pvd (i : Nat) {x : Str} (h : PE X (.Name x pos) (tVar i)) : PD X F Wx (.Name x pos) (rd i) := pd_var h
theorem fn_ok0 {P : Program} {w : World} {K : PySem.W.Frag} {mg : Str → Option Value} {base : Heap} {T : Addr → Prop} {x qual : Str} {st : Stmt} {f : Addr} {fd : FuncData} {N ps : List Str} {k : Nat} {m : SM} (FU : Fun K x qual st f fd) (S : FnScope N ps (defScope st)) (hl : ps.length ≤ N.length)
    (hbody : ∀ (cdv : Value) (A : Around) (outer : List Env) (s : Shared) (H : Hp) (E : XK) (H0 G0 : Hp) (n0 : Nat) (α0 : Al), fd.code = cdv → Room k (A.deeper (envOfC qual (defScope st) s.heap.objs.size f cdv)) → PSsD (cxOf CX0 P w K mg base N qual (defScope st) f cdv A outer s H E).nox ⟨H0, G0, n0, α0, T⟩ (fun cls d _ H => E cls d H) (defBody st) m) :
    FnOk P w K mg base CX0 (k + 1) f fd ps (spD T ⟨K, w⟩ mg ps.length (fnOf N.length m)) :=
  fn_okD FU S hl fun cdv A outer s H E H0 G0 n0 α0 hcd hr => PSs.nox (hbody cdv A outer s H E H0 G0 n0 α0 hcd hr)
end
end BZ
end
section
set_option Elab.async false
set_option linter.all false
set_option maxRecDepth 100000
set_option maxHeartbeats 1000000
namespace BZ
open PySem PySem.Spec PyProof.Rows L2

theorem Room.u65 {k : Nat} {A : Around} (r : Room k A) : A.units + 65 < cLine := by have := r.un; omega
section
variable {X : Cx} {F : Frm} {Wx : WX} {e a b c tg iter elt o : Expr} {es ifs elts : List Expr} {pos p tpos apos cpos p2 : Pos} {ma mb mc mo mk mv : M D} {mf : M S} {ms : M (List D)} {sts sts' : List Stmt} {st : Stmt} {m : SM}
theorem pgn (i : Nat) (nd : X.N.Nodup) {x : Str} (hi : X.N[i]? = some x := by rfl) (hl : L2.Loc X.env.scope x := by first | exact Or.inl rfl | exact Or.inr rfl)
    (hf : X.fn x = true ∨ X.env.scope.names.lookup x = some .local := by first | exact Or.inr rfl | exact Or.inl rfl) : PG X (.Name x pos) (Tg.g X.K (.sl i)) := pg_name nd hi hl hf
theorem pgs0 : PGs X [] (Tg.gs X.K []) := pgs_nil
theorem pgs1 {t : Tg} {l : List Tg} (h : PG X e (t.g X.K)) (hs : PGs X es (Tg.gs X.K l)) (hm : List.map (fun x => x.snd) (assignEach (e :: es) X.env) = assign e X.env :: List.map (fun x => x.snd) (assignEach es X.env) := by rfl) : PGs X (e :: es) (Tg.gs X.K (t :: l)) := pgs_cons h hs hm
theorem pgt {l : List Tg} {k : Nat} (hc : X.calm = true) (hs : PGs X es (Tg.gs X.K l)) (h1 : (assignEach es X.env).length = l.length := by rfl) (h2 : List.findIdx? (fun x => x.fst) (assignEach es X.env) = none := by rfl) : PG X (.Tuple es k pos) (Tg.g X.K (.unp l)) := pg_tup hc hs h1 h2
/-! ## all, any of a list -/
def blsD : List D → Option (List Bool)
  | [] => some []
  | .bl b :: l => (blsD l).map (b :: ·)
  | _ => none
theorem blsD_ok {K : Kw} {G : Hp} {α : Al} : ∀ {l : List D} {bs : List Bool} {xs : List V}, blsD l = some bs → RepL K G α l xs → xs = bs.map V.bl
  | [], bs, xs, h, r => by
    unfold blsD at h
    cases h
    unfold RepL at r
    exact r
  | d :: l, bs, xs, h, r => by
    unfold RepL at r
    obtain ⟨x, r0, rfl, r1, r2⟩ := r
    cases d with
    | bl z =>
      unfold blsD at h
      cases e : blsD l with
      | none => rw [e] at h; cases h
      | some ys' =>
        rw [e] at h
        cases h
        unfold Rep at r1
        rw [r1, blsD_ok e r2]
        rfl
    | _ => unfold blsD at h; cases h
def allD : List D → Option D
  | [.lst l] => (blsD l).map fun bs => .bl (bs.all id)
  | _ => none
def anyD : List D → Option D
  | [.lst l] => (blsD l).map fun bs => .bl (bs.any id)
  | _ => none
theorem all_f : CallF X F (rAll X.K) allD := by
  refine ⟨fun ρ G α σ H vs Q as d w r e q => ?_⟩
  unfold allD at e
  split at e
  · rename_i l
    cases e1 : blsD l with
    | none => rw [e1] at e; cases e
    | some bs =>
      rw [e1] at e
      cases e
      obtain ⟨v, rfl, rv⟩ := one_of r
      obtain ⟨a, xs, rfl, h1, r1⟩ := rv
      exact ⟨a, bs, rfl, by rw [← blsD_ok e1 r1]; exact SqL.of h1, q.bl w⟩
  · cases e
theorem any_f : CallF X F (rAny X.K) anyD := by
  refine ⟨fun ρ G α σ H vs Q as d w r e q => ?_⟩
  unfold anyD at e
  split at e
  · rename_i l
    cases e1 : blsD l with
    | none => rw [e1] at e; cases e
    | some bs =>
      rw [e1] at e
      cases e
      obtain ⟨v, rfl, rv⟩ := one_of r
      obtain ⟨a, xs, rfl, h1, r1⟩ := rv
      exact ⟨a, bs, rfl, by rw [← blsD_ok e1 r1]; exact SqL.of h1, q.bl w⟩
  · cases e
/-! ## enumerate, zip -/
def enumL : Nat → List D → List D
  | _, [] => []
  | i, d :: l => .tup [.int (i : Nat), d] :: enumL (i + 1) l
theorem enumL_get : ∀ (l : List D) (n i : Nat), (enumL n l)[i]? = (l[i]?).map fun d => .tup [.int ((n + i : Nat) : Int), d]
  | [], n, i => by simp [enumL]
  | d :: l, n, 0 => by simp [enumL]
  | d :: l, n, i + 1 => by
    show (enumL (n + 1) l)[i]? = _
    rw [enumL_get l (n + 1) i]
    rw [List.getElem?_cons_succ, show n + 1 + i = n + (i + 1) by omega]
theorem enumL_len : ∀ (l : List D) (n : Nat), (enumL n l).length = l.length
  | [], _ => rfl
  | d :: l, n => by
    show (enumL (n + 1) l).length + 1 = l.length + 1
    rw [enumL_len l (n + 1)]
def enumD (ds : List D) : M (List D) := fun ρ => match ds with
  | [.lst l] => .ok (enumL 0 l) ρ
  | [.scr l] => .ok (enumL 0 l) ρ
  | _ => .no
theorem pair_new {K : Kw} {F : Frm} {ρ : E} {G H : Hp} {α : Al} {σ : L2.St} {ds : List D} {xs : List V} {T : Addr} (w : W K F ρ G α σ H) (n : H T = none) (r : RepL K G α ds xs) :
    ∃ G2, W K F ρ G2 α σ (upd H T (.tup xs)) ∧ Ext G α G2 α ∧ Rep K G2 α (.tup ds) (.ref T) ∧ (∀ a o, H a = some o → (upd H T (.tup xs)) a = some o) ∧ ∀ a o, G2 a = some o → (∃ u, G a = some u) ∨ H a = none := by
  obtain ⟨w1, x⟩ := w.alloc (o := .tup xs) n
  refine ⟨_, w1, x, ?_, upd_of_none n, fun a o e => ?_⟩
  · unfold Rep
    exact ⟨T, xs, rfl, .inl (.inl upd_same), RepL.ext x _ _ r⟩
  · by_cases z : a = T
    · exact .inr (by rw [z]; exact n)
    · rw [upd_ne z] at e
      exact .inl ⟨o, e⟩
theorem walk_enum {K : Kw} {G : Hp} {α : Al} {a : Addr} {ds : List D} {xs : List V} (h : ∀ (H : Hp), (∀ a o, G a = some o → H a = some o) → SqL K.K H a xs) (r : RepL K G α ds xs) : WalkOk K (Ite K.K a) (enumL 0 ds) G α := fun F ρ G1 α1 σ H w x => by
  have hs : SqL K.K H a xs := h H fun a o e => w.sub _ _ (x.g _ _ e)
  have r1 := RepL.ext x _ _ r
  refine ⟨fun i hi => ?_, fun i hi => ⟨xs, hs, by rw [r.length, ← enumL_len ds 0]; exact hi⟩, fun i d y H' e q => ?_⟩
  · rw [enumL_len] at hi
    obtain ⟨v, h1, _⟩ := r1.get (List.getElem?_eq_getElem hi)
    exact ⟨xs, v, hs, h1⟩
  · obtain ⟨T, x0, rfl, nT, rfl, q⟩ := q
    rw [enumL_get] at e
    cases e0 : ds[i]? with
    | none => rw [e0] at e; cases e
    | some d0 =>
      rw [e0] at e
      cases e
      obtain ⟨v, h1, h2⟩ := r1.get e0
      have := q xs hs
      rw [h1] at this; cases this
      have z : ((0 + i : Nat) : Int) = (i : Nat) := by simp
      rw [z]
      exact pair_new w nT (RepL.cons (by unfold Rep; rfl) (RepL.cons h2 RepL.nil))
theorem pid_enum {kk : Nat} (hg : Gl X "enumerate") (hm : X.mg "enumerate" = none) (ha : PDA X F Wx [a] ms) (hs : starEach [a] X.env = [(false, eval a X.env)] := by rfl) : PID X F Wx (.Tuple elts kk tpos) (.Call (.Name "enumerate" p) [a] [] pos) (ms >>= enumD) := PI.of fun σ H Rr ⟨ρ, G, α, w, h⟩ =>
  ⟨_, pi_enum hg hm ha hs, ρ, G, α, w, h.bind.imp fun ds ρ1 q vs H1 G1 α1 w1 x1 r1 => by
    unfold enumD at q
    split at q
    · obtain ⟨v, rfl, r⟩ := one_of r1
      have r : Rep (kw X) G1 α1 (.lst _) v := r
      unfold Rep at r
      obtain ⟨a, xs, rfl, h1, r2⟩ := r
      exact ⟨a, xs, rfl, SqL.of (w1.sub _ _ h1), q _ H1 G1 α1 w1 x1 (walk_enum (K := kw X) (fun H s => SqL.of (s _ _ h1)) r2)⟩
    · obtain ⟨v, rfl, r⟩ := one_of r1
      have r : Rep (kw X) G1 α1 (.scr _) v := r
      unfold Rep at r
      obtain ⟨a, xs, rfl, h1, r2⟩ := r
      exact ⟨a, xs, rfl, SqL.sub h1 w1.sub, q _ H1 G1 α1 w1 x1 (walk_enum (K := kw X) (fun H s => SqL.sub h1 s) r2)⟩
    · exact q.elim⟩
abbrev iEnum (ms : M (List D)) : M (List D) := ms >>= enumD
def zipL : List D → List D → List D
  | x :: l, y :: m => .tup [x, y] :: zipL l m
  | _, _ => []
end
end BZ
end
section
set_option Elab.async false
set_option linter.all false
set_option maxRecDepth 100000
set_option maxHeartbeats 1000000
namespace BZ
open PySem PySem.Spec PyProof.Rows L2
/-! ## zip in any state of its pair, inside enumerate -/
abbrev ZipG (h : Heap) (z TI TO : Addr) (v : Value) (f : Bool) : Prop :=
  h.get? z = some { cls := .type "zip", dict := none, data := .fields #[v, .bool f, .bool false, .ref TI, .ref TO], slots := #[] }
def ZFree (h : Heap) (v : Value) : Prop := v = .none ∨ ∃ T : Addr, v = rawInt T ∧ h.get? T = none
section
variable {prog : Program} {w : World} {A : Around} {E : Value → Shared → Prop} {s : Shared}
theorem zdead {a : Addr} {Q : Option Obj → Shared → Prop} (ho : s.heap.get? a = none) (h : Q none s) : wpAny (model prog w) A (loadIfAlive a) Q E s := by
  have h' : Q (s.heap.get? a) s := by rw [ho]; exact h
  exact fun _ _ _ => h'
theorem free_zip {z TI TO : Addr} {v : Value} {f : Bool} {Q : Bool → Shared → Prop} (hv : ZFree s.heap v) (hz : ZipG s.heap z TI TO v f) (h : Q true s) : wpAny (model prog w) A (Builtin.SmallTypes.ownedTupleIsFree (.ref z)) Q E s := by
  unfold Builtin.SmallTypes.ownedTupleIsFree
  refine wpAny_bind (wpAny_field hz rfl (x := v) rfl ?_)
  rcases hv with rfl | ⟨T, rfl, hT⟩
  · exact wpAny_pure h
  · show wpAny _ _ (loadIfAlive ((T : Int).toNat) >>= _) _ _ _
    rw [Int.toNat_natCast]
    refine wpAny_bind (zdead hT ?_)
    simp only [Option.isNone_none, if_true]
    exact wpAny_pure h
theorem zipG_item {z TI TO i1 i2 l1 l2 : Addr} {k1 k2 : Nat} {xs ys : Array Value} {x y a b : Value} {Q : Value → Shared → Prop} (D : ZipApart z TI TO i1 i2 l1 l2)
    {v0 : Value} {f0 : Bool} (hv : ZFree s.heap v0) (hz : ZipG s.heap z TI TO v0 f0) (hTI : IsPair s.heap TI (.ref i1) (.ref i2)) (hTO : IsPair s.heap TO a b)
    (h1 : s.heap.IsListIter i1 l1 k1) (h2 : s.heap.IsListIter i2 l2 k2) (hl1 : s.heap.IsList l1 xs) (hl2 : s.heap.IsList l2 ys) (hx : xs[k1]? = some x) (hy : ys[k2]? = some y)
    (hQ : ∀ h', ZipG h' z TI TO (rawInt s.heap.objs.size) false → IsPair h' TO x y → h'.IsListIter i1 l1 (k1 + 1) → h'.IsListIter i2 l2 (k2 + 1) → IsPair h' s.heap.objs.size x y → h'.objs.size = s.heap.objs.size + 1 →
      (∀ c o, c ≠ z → c ≠ TO → c ≠ i1 → c ≠ i2 → s.heap.get? c = some o → h'.get? c = some o) → Q (.ref s.heap.objs.size) { s with heap := h' }) :
    wpAny (model prog w) A (Builtin.«zip.__next__» ⟨[.ref z], []⟩) (fun fin s' => ∃ v, fin = .done (.ret v) ∧ Q v s') E s := by
  show wpAny _ _ (field (.ref z) 2 >>= _) _ _ _
  refine wpAny_bind (wpAny_field hz rfl (x := .bool false) rfl ?_)
  show wpAny _ _ (field (.ref z) 3 >>= _) _ _ _
  refine wpAny_bind (wpAny_field hz rfl (x := .ref TI) rfl ?_)
  refine wpAny_bind (wpAny_seqItems hTI rfl ?_)
  show wpAny _ _ (Builtin.SmallTypes.ownedTupleIsFree (.ref z) >>= _) _ _ _
  refine wpAny_bind (free_zip hv hz ?_)
  simp only [if_true]
  refine wpAny_bind (wpAny_rule ?_)
  refine wpAny_bind (wpAny_field hz rfl (x := .ref TO) rfl ?_)
  refine wpAny_bind (wpAny_setField_rec hz (by simp) fun h₁ hz₁ hs₁ => ?_)
  replace hz₁ : ZipG h₁ z TI TO .ellipsis f0 := hz₁
  refine wpAny_bind ?_
  simp only [List.zipIdx_cons, List.zipIdx_nil, List.forIn_cons, List.forIn_nil]

  refine wpAny_bind (wpAny_bind (wpAny_onRaise ?_))
  show wpAny _ _ (Builtin.SmallTypes.nextOf (.ref i1) >>= _) _ _ _
  refine wpAny_bind (wpAny_nextOf_list_item (h1.extBut hs₁.extBut D.i1z) (hl1.extBut hs₁.extBut D.l1z) hx fun h₂ h1₂ hs₂ => wpAny_pure ?_)
  have hTO₂ : IsPair h₂ TO a b := hs₂.extBut _ _ D.TOi1 (hs₁.extBut _ _ D.TOz hTO)
  refine wpAny_bind (wpAny_seqItems hTO₂ rfl ?_)
  refine wpAny_bind (wpAny_updateSeq_pair hTO₂ fun h₃ hTO₃ hs₃ => ?_)
  replace hTO₃ : IsPair h₃ TO x b := hTO₃
  refine wpAny_bind (wpAny_letGo (wpAny_pure ?_))

  refine wpAny_bind (wpAny_bind (wpAny_onRaise ?_))
  show wpAny _ _ (Builtin.SmallTypes.nextOf (.ref i2) >>= _) _ _ _
  refine wpAny_bind (wpAny_nextOf_list_item (((h2.extBut hs₁.extBut D.i2z).extBut hs₂.extBut D.i12.symm).extBut hs₃.extBut D.TOi2.symm)
    (((hl2.extBut hs₁.extBut D.l2z).extBut hs₂.extBut D.l2i1).extBut hs₃.extBut D.l2TO) hy fun h₄ h2₄ hs₄ => wpAny_pure ?_)
  have hTO₄ : IsPair h₄ TO x b := hs₄.extBut _ _ D.TOi2 hTO₃
  refine wpAny_bind (wpAny_seqItems hTO₄ rfl ?_)
  refine wpAny_bind (wpAny_updateSeq_pair hTO₄ fun h₅ hTO₅ hs₅ => ?_)
  replace hTO₅ : IsPair h₅ TO x y := hTO₅
  refine wpAny_bind (wpAny_letGo (wpAny_pure (wpAny_pure ?_)))

  refine wpAny_bind (wpAny_seqItems hTO₅ rfl ?_)
  refine wpAny_bind (wpAny_newTuple ?_)
  have hsz : h₅.objs.size = s.heap.objs.size := by rw [hs₅.1, hs₄.1, hs₃.1, hs₂.1, hs₁.1]
  have hz₅ : ZipG h₅ z TI TO .ellipsis f0 := hs₅.extBut _ _ D.TOz.symm (hs₄.extBut _ _ D.i2z.symm (hs₃.extBut _ _ D.TOz.symm (hs₂.extBut _ _ D.i1z.symm hz₁)))
  have hk₅ : ∀ c o, c ≠ z → c ≠ TO → c ≠ i1 → c ≠ i2 → s.heap.get? c = some o → h₅.get? c = some o := fun c o c1 c2 c3 c4 e =>
    hs₅.extBut _ _ c2 (hs₄.extBut _ _ c4 (hs₃.extBut _ _ c2 (hs₂.extBut _ _ c3 (hs₁.extBut _ _ c1 e))))
  have h1₅ : h₅.IsListIter i1 l1 (k1 + 1) := ((h1₂.extBut hs₃.extBut D.TOi1.symm).extBut hs₄.extBut D.i12).extBut hs₅.extBut D.TOi1.symm
  have h2₅ : h₅.IsListIter i2 l2 (k2 + 1) := h2₄.extBut hs₅.extBut D.TOi2.symm
  have hzlt : z < h₅.objs.size := Heap.lt_size hz₅
  have hTOlt : TO < h₅.objs.size := Heap.lt_size hTO₅
  have hi1lt : i1 < h₅.objs.size := by obtain ⟨_, e, _⟩ := h1₅; exact Heap.lt_size e
  have hi2lt : i2 < h₅.objs.size := by obtain ⟨_, e, _⟩ := h2₅; exact Heap.lt_size e
  show wpAny _ _ (Builtin.SmallTypes.ownedTupleHandOut (.ref z) (.ref h₅.objs.size) >>= _) _ _ _
  refine wpAny_bind ?_
  unfold Builtin.SmallTypes.ownedTupleHandOut
  have hz₆ : ZipG (h₅.push { cls := .type "tuple", data := .seq #[x, y] }) z TI TO .ellipsis f0 := Heap.get?_push_of_some _ hz₅
  refine wpAny_bind (wpAny_setField_rec hz₆ (by simp) fun h₇ hz₇ hs₇ => ?_)
  replace hz₇ : ZipG h₇ z TI TO (rawInt h₅.objs.size) f0 := hz₇
  refine wpAny_setField_rec hz₇ (by simp) fun h₈ hz₈ hs₈ => ?_
  replace hz₈ : ZipG h₈ z TI TO (rawInt h₅.objs.size) false := hz₈
  have up : ∀ c o, c ≠ z → h₅.get? c = some o → h₈.get? c = some o := fun c o c1 e => hs₈.extBut _ _ c1 (hs₇.extBut _ _ c1 (Heap.get?_push_of_some _ e))
  have hT₈ : IsPair h₈ h₅.objs.size x y := hs₈.extBut _ _ (Nat.ne_of_gt hzlt) (hs₇.extBut _ _ (Nat.ne_of_gt hzlt) (Heap.get?_push_size _ rfl))
  have hz8 : h₈.objs.size = h₅.objs.size + 1 := by rw [hs₈.1, hs₇.1, Heap.size_push]
  rw [hsz] at hz₈ hT₈ hz8
  refine wpAny_pure ⟨_, rfl, ?_⟩
  show Q (.ref h₅.objs.size) _
  rw [hsz]
  exact hQ h₈ hz₈ (up _ _ D.TOz hTO₅) (h1₅.at fun o e => up _ o D.i1z e) (h2₅.at fun o e => up _ o D.i2z e) hT₈ hz8 fun c o c1 c2 c3 c4 e => up c o c1 (hk₅ c o c1 c2 c3 c4 e)

theorem zipG_end {z TI TO i1 i2 l1 l2 : Addr} {k1 k2 : Nat} {xs ys : Array Value} {a b : Value} {Q : Fin → Shared → Prop} (hh : A.handled = none) (D : ZipApart z TI TO i1 i2 l1 l2)
    {v0 : Value} {f0 : Bool} (hv : ZFree s.heap v0) (hz : ZipG s.heap z TI TO v0 f0) (hTI : IsPair s.heap TI (.ref i1) (.ref i2)) (hTO : IsPair s.heap TO a b)
    (h1 : s.heap.IsListIter i1 l1 k1) (h2 : s.heap.IsListIter i2 l2 k2) (hl1 : s.heap.IsList l1 xs) (hl2 : s.heap.IsList l2 ys) (hend : xs[k1]? = none ∨ ys[k2]? = none)
    (hE : ∀ h' e, (∀ c o, c ≠ z → c ≠ TO → c ≠ i1 → c ≠ i2 → s.heap.get? c = some o → h'.get? c = some o) → (∃ o, h'.get? e = some o ∧ o.cls = .type "StopIteration") → E (.ref e) { s with heap := h' }) :
    wpAny (model prog w) A (Builtin.«zip.__next__» ⟨[.ref z], []⟩) Q E s := by
  show wpAny _ _ (field (.ref z) 2 >>= _) _ _ _
  refine wpAny_bind (wpAny_field hz rfl (x := .bool false) rfl ?_)
  show wpAny _ _ (field (.ref z) 3 >>= _) _ _ _
  refine wpAny_bind (wpAny_field hz rfl (x := .ref TI) rfl ?_)
  refine wpAny_bind (wpAny_seqItems hTI rfl ?_)
  show wpAny _ _ (Builtin.SmallTypes.ownedTupleIsFree (.ref z) >>= _) _ _ _
  refine wpAny_bind (free_zip hv hz ?_)
  simp only [if_true]
  refine wpAny_bind (wpAny_rule ?_)
  refine wpAny_bind (wpAny_field hz rfl (x := .ref TO) rfl ?_)
  refine wpAny_bind (wpAny_setField_rec hz (by simp) fun h₁ hz₁ hs₁ => ?_)
  replace hz₁ : ZipG h₁ z TI TO .ellipsis f0 := hz₁
  refine wpAny_bind ?_
  simp only [List.zipIdx_cons, List.zipIdx_nil, List.forIn_cons, List.forIn_nil]
  refine wpAny_bind (wpAny_bind (wpAny_onRaise ?_))
  show wpAny _ _ (Builtin.SmallTypes.nextOf (.ref i1) >>= _) _ _ _
  cases hx : xs[k1]? with
  | none =>
    refine wpAny_bind (wpAny_nextOf_list_end hh (h1.extBut hs₁.extBut D.i1z) (hl1.extBut hs₁.extBut D.l1z) hx fun h₂ e hs₂ he => ?_)
    obtain ⟨oe, hoe, hce⟩ := he
    have hz₂ : ZipG h₂ z TI TO .ellipsis f0 := hs₂ _ _ D.i1z.symm hz₁
    have hez : e ≠ z := fun x => by subst x; rw [hz₂] at hoe; cases hoe; simp at hce
    refine wpAny_setField_rec hz₂ (by simp) fun h₃ _ hs₃ => hE h₃ e (fun c o c1 _ c3 _ x => hs₃.extBut _ _ c1 (hs₂ _ _ c3 (hs₁.extBut _ _ c1 x))) ⟨oe, hs₃.extBut _ _ hez hoe, hce⟩
  | some x =>
    have hy : ys[k2]? = none := by rcases hend with h | h; rw [hx] at h; cases h; exact h
    refine wpAny_bind (wpAny_nextOf_list_item (h1.extBut hs₁.extBut D.i1z) (hl1.extBut hs₁.extBut D.l1z) hx fun h₂ h1₂ hs₂ => wpAny_pure ?_)
    have hTO₂ : IsPair h₂ TO a b := hs₂.extBut _ _ D.TOi1 (hs₁.extBut _ _ D.TOz hTO)
    refine wpAny_bind (wpAny_seqItems hTO₂ rfl ?_)
    refine wpAny_bind (wpAny_updateSeq_pair hTO₂ fun h₃ hTO₃ hs₃ => ?_)
    refine wpAny_bind (wpAny_letGo (wpAny_pure ?_))
    refine wpAny_bind (wpAny_bind (wpAny_onRaise ?_))
    show wpAny _ _ (Builtin.SmallTypes.nextOf (.ref i2) >>= _) _ _ _
    refine wpAny_bind (wpAny_nextOf_list_end hh (((h2.extBut hs₁.extBut D.i2z).extBut hs₂.extBut D.i12.symm).extBut hs₃.extBut D.TOi2.symm)
      (((hl2.extBut hs₁.extBut D.l2z).extBut hs₂.extBut D.l2i1).extBut hs₃.extBut D.l2TO) hy fun h₄ e hs₄ he => ?_)
    obtain ⟨oe, hoe, hce⟩ := he
    have hz₄ : ZipG h₄ z TI TO .ellipsis f0 := hs₄ _ _ D.i2z.symm (hs₃.extBut _ _ D.TOz.symm (hs₂.extBut _ _ D.i1z.symm hz₁))
    have hez : e ≠ z := fun x => by subst x; rw [hz₄] at hoe; cases hoe; simp at hce
    refine wpAny_setField_rec hz₄ (by simp) fun h₅ _ hs₅ => hE h₅ e (fun c o c1 c2 c3 c4 x => hs₅.extBut _ _ c1 (hs₄ _ _ c4 (hs₃.extBut _ _ c2 (hs₂.extBut _ _ c3 (hs₁.extBut _ _ c1 x))))) ⟨oe, hs₅.extBut _ _ hez hoe, hce⟩

end
end BZ
end
section
set_option Elab.async false
set_option linter.all false
set_option maxRecDepth 100000
set_option maxHeartbeats 1000000
namespace BZ
open PySem PySem.Spec PyProof.Rows L2
def ZSt (z TI TO i1 i2 a b : Addr) (i : Nat) (h : Heap) : Prop :=
  (∃ v f, ZipG h z TI TO v f ∧ (v = .none ∨ ∃ T : Addr, v = rawInt T)) ∧ IsPair h TI (.ref i1) (.ref i2) ∧ (∃ x y, IsPair h TO x y) ∧ h.IsListIter i1 a i ∧ h.IsListIter i2 b i
abbrev zfp (z TI TO i1 i2 : Addr) : List Addr := [z, TI, TO, i1, i2]
section
variable {prog : Program} {w : World} {A : Around} {E : Value → Shared → Prop} {s : Shared}
theorem ZSt.keep {z TI TO i1 i2 a b : Addr} {i : Nat} {h h' : Heap} (st : ZSt z TI TO i1 i2 a b i h) (k : ∀ c ∈ zfp z TI TO i1 i2, ∀ o, h.get? c = some o → h'.get? c = some o) : ZSt z TI TO i1 i2 a b i h' := by
  obtain ⟨⟨v, f, hz, hv⟩, hTI, ⟨x, y, hTO⟩, h1, h2⟩ := st
  exact ⟨⟨v, f, k z (by simp) _ hz, hv⟩, k TI (by simp) _ hTI, ⟨x, y, k TO (by simp) _ hTO⟩, h1.at fun o q => k i1 (by simp) o q, h2.at fun o q => k i2 (by simp) o q⟩
theorem zst_cases {h : Heap} {v : Value} (hv : v = .none ∨ ∃ T : Addr, v = rawInt T) : ZFree h v ∨ ∃ (T : Addr) (o : Obj), v = rawInt T ∧ h.get? T = some o := by
  rcases hv with rfl | ⟨T, rfl⟩
  · exact .inl (.inl rfl)
  · cases e : h.get? T with
    | none => exact .inl (.inr ⟨T, rfl, e⟩)
    | some o => exact .inr ⟨T, o, rfl, e⟩
theorem nextOf_zip_item {z TI TO i1 i2 a b : Addr} {i : Nat} {xs ys : Array Value} {x y : Value} {Q : Value → Shared → Prop} (D : ZipApart z TI TO i1 i2 a b) (st : ZSt z TI TO i1 i2 a b i s.heap)
    (hl1 : s.heap.IsList a xs) (hl2 : s.heap.IsList b ys) (hx : xs[i]? = some x) (hy : ys[i]? = some y)
    (hQ : ∀ h', ZSt z TI TO i1 i2 a b (i + 1) h' → IsPair h' s.heap.objs.size x y → h'.objs.size = s.heap.objs.size + 1 → (∀ c o, c ∉ zfp z TI TO i1 i2 → s.heap.get? c = some o → h'.get? c = some o) → Q (.ref s.heap.objs.size) { s with heap := h' }) :
    wpAny (model prog w) A (Builtin.SmallTypes.nextOf (.ref z)) Q E s := by
  obtain ⟨⟨v, f, hz, hv⟩, hTI, ⟨x0, y0, hTO⟩, h1, h2⟩ := st
  have hT : s.TypeIs (.ref z) "zip" := ⟨_, hz, rfl⟩
  unfold Builtin.SmallTypes.nextOf
  refine wpAny_bind (wpAny_callSpecial?_slot (name := Str.ofString "__next__") hT F.slot_zip_next
    (wpAny_call_entry F.slot_zip_next hT F.entry_zip_next ?_ (F.args_zip_next_1 _)))
  rcases zst_cases hv with q | ⟨T, oT, rfl, q⟩
  · exact zipG_item D q hz hTI hTO h1 h2 hl1 hl2 hx hy fun h' a1 a2 a3 a4 a5 a6 a7 => wpAny_pure (hQ h' ⟨⟨_, _, a1, .inr ⟨_, rfl⟩⟩, a7 _ _ D.TIz D.TITO D.TIi1 D.TIi2 hTI, ⟨_, _, a2⟩, a3, a4⟩ a5 a6 fun c o n e => a7 c o (fun z => n (by simp [z])) (fun z => n (by simp [z])) (fun z => n (by simp [z])) (fun z => n (by simp [z])) e)
  · exact zip_next_item_held D hz q hTI h1 h2 hl1 hl2 hx hy fun h' a1 a3 a4 a5 a6 a7 => wpAny_pure (hQ h' ⟨⟨_, _, a1, .inr ⟨_, rfl⟩⟩, a7 _ _ D.TIz D.TIi1 D.TIi2 hTI, ⟨_, _, a7 _ _ D.TOz D.TOi1 D.TOi2 hTO⟩, a3, a4⟩ a5 a6 fun c o n e => a7 c o (fun z => n (by simp [z])) (fun z => n (by simp [z])) (fun z => n (by simp [z])) e)
theorem nextOf_zip_end {z TI TO i1 i2 a b : Addr} {i : Nat} {xs ys : Array Value} {Q : Value → Shared → Prop} (hh : A.handled = none) (D : ZipApart z TI TO i1 i2 a b) (st : ZSt z TI TO i1 i2 a b i s.heap)
    (hl1 : s.heap.IsList a xs) (hl2 : s.heap.IsList b ys) (hend : xs[i]? = none ∨ ys[i]? = none)
    (hE : ∀ h' e, (∀ c o, c ∉ zfp z TI TO i1 i2 → s.heap.get? c = some o → h'.get? c = some o) → (∃ o, h'.get? e = some o ∧ o.cls = .type "StopIteration") → E (.ref e) { s with heap := h' }) :
    wpAny (model prog w) A (Builtin.SmallTypes.nextOf (.ref z)) Q E s := by
  obtain ⟨⟨v, f, hz, hv⟩, hTI, ⟨x0, y0, hTO⟩, h1, h2⟩ := st
  have hT : s.TypeIs (.ref z) "zip" := ⟨_, hz, rfl⟩
  unfold Builtin.SmallTypes.nextOf
  refine wpAny_bind (wpAny_callSpecial?_slot (name := Str.ofString "__next__") hT F.slot_zip_next
    (wpAny_call_entry F.slot_zip_next hT F.entry_zip_next ?_ (F.args_zip_next_1 _)))
  rcases zst_cases hv with q | ⟨T, oT, rfl, q⟩
  · exact zipG_end hh D q hz hTI hTO h1 h2 hl1 hl2 hend fun h' e a7 he => hE h' e (fun c o n e => a7 c o (fun z => n (by simp [z])) (fun z => n (by simp [z])) (fun z => n (by simp [z])) (fun z => n (by simp [z])) e) he
  · exact zip_next_end_held hh D hz q hTI h1 h2 hl1 hl2 hend fun h' e a7 he => hE h' e (fun c o n e => a7 c o (fun z => n (by simp [z])) (fun z => n (by simp [z])) (fun z => n (by simp [z])) e) he
/-- enumerate, its items drawn by any step that gives a new object -/
theorem enumG_item {e it : Addr} {i : Nat} {old v : Value} {Q : Value → Shared → Prop} (Mid : Heap → Prop) (hin : ∀ (Q' : Value → Shared → Prop), (∀ h', Mid h' → Q' v { s with heap := h' }) → wpAny (model prog w) A (Builtin.SmallTypes.nextOf (.ref it)) Q' E s)
    (he : IsEnum s.heap e it i old) (hm : ∀ h', Mid h' → IsEnum h' e it i old)
    (hQ : ∀ h₁ h', Mid h₁ → IsEnumOut h' e it ((i : Int) + 1) v h₁.objs.size → h'.get? h₁.objs.size = some { cls := .type "tuple", data := .seq #[.int i s.toks, v] } → h'.objs.size = h₁.objs.size + 1 →
      (∀ b o, b ≠ e → h₁.get? b = some o → h'.get? b = some o) → Q (.ref h₁.objs.size) { s with heap := h', toks := s.toks + 1 }) :
    wpAny (model prog w) A (Builtin.«enumerate.__next__» ⟨[.ref e], []⟩) (fun fin s' => ∃ v, fin = .done (.ret v) ∧ Q v s') E s := by
  obtain ⟨hp, g, d, tk, os⟩ := s
  show wpAny _ _ (field (.ref e) 2 >>= _) _ _ _
  refine wpAny_bind (wpAny_field he rfl (x := .ref it) rfl ?_)
  refine wpAny_bind (hin _ fun h₁ md => ?_)
  have he₁ := hm h₁ md
  show wpAny _ _ (field (.ref e) 3 >>= _) _ _ ⟨h₁, g, d, tk, os⟩
  refine wpAny_bind (wpAny_field he₁ rfl (x := rawInt i) rfl ?_)
  show wpAny _ _ (field (.ref e) 4 >>= _) _ _ ⟨h₁, g, d, tk, os⟩
  refine wpAny_bind (wpAny_field he₁ rfl (x := .none) rfl ?_)
  show wpAny _ _ (mkInt i >>= _) _ _ ⟨h₁, g, d, tk, os⟩
  refine wpAny_bind (wpAny_mkInt ?_)
  show wpAny _ _ (setField (.ref e) 3 (rawInt ((i : Int) + 1)) >>= _) _ _ ⟨h₁, g, d, tk + 1, os⟩
  refine wpAny_bind (wpAny_setField_rec he₁ (by simp) fun h₂ he₂ hs₂ => ?_)
  replace hs₂ : Heap.SameBut e h₁ h₂ := hs₂
  replace he₂ : IsEnum h₂ e it ((i : Int) + 1) old := he₂
  show wpAny _ _ (setField (.ref e) 4 .none >>= _) _ _ ⟨h₂, g, d, tk + 1, os⟩
  refine wpAny_bind (wpAny_setField_rec he₂ (by simp) fun h₃ he₃ hs₃ => ?_)
  replace hs₃ : Heap.SameBut e h₂ h₃ := hs₃
  replace he₃ : IsEnum h₃ e it ((i : Int) + 1) old := he₃
  show wpAny _ _ (newTuple [.int i tk, v] >>= _) _ _ ⟨h₃, g, d, tk + 1, os⟩
  refine wpAny_bind (wpAny_newTuple ?_)
  have he₄ : IsEnum (h₃.push { cls := .type "tuple", data := .seq #[.int i tk, v] }) e it ((i : Int) + 1) old := Heap.get?_push_of_some _ he₃
  generalize hh₄ : h₃.push { cls := .type "tuple", data := .seq #[.int i tk, v] } = h₄ at he₄
  have hsz : h₃.objs.size = h₁.objs.size := by rw [hs₃.1, hs₂.1]
  have hel : e < h₁.objs.size := Heap.lt_size he₁
  have ht₄ : h₄.get? h₁.objs.size = some { cls := .type "tuple", data := .seq #[.int i tk, v] } := by rw [← hh₄, ← hsz]; exact Heap.get?_push_size _ rfl
  have hz₄ : h₄.objs.size = h₁.objs.size + 1 := by rw [← hh₄, Heap.size_push, hsz]
  have hk₄ : ∀ b o, b ≠ e → h₁.get? b = some o → h₄.get? b = some o := fun b o hbe hb => by
    rw [← hh₄]; exact Heap.get?_push_of_some _ (hs₃.extBut b o hbe (hs₂.extBut b o hbe hb))
  show wpAny _ _ (Builtin.SmallTypes.ownedTupleIsFree (.ref e) >>= _) _ _ ⟨h₄, g, d, tk + 1, os⟩
  rw [hsz]
  clear hh₄ he₃ hs₃ he₂ hs₂ hsz h₃ h₂
  refine wpAny_bind ?_
  unfold Builtin.SmallTypes.ownedTupleIsFree
  refine wpAny_bind (wpAny_field he₄ rfl (x := .none) rfl (wpAny_pure ?_))
  simp only [if_true]
  refine wpAny_bind (wpAny_rule ?_)
  refine wpAny_bind (wpAny_field he₄ rfl (x := old) rfl ?_)
  refine wpAny_bind (wpAny_setField_rec he₄ (by simp) fun h₅ he₅ hs₅ => ?_)
  replace hs₅ : Heap.SameBut e h₄ h₅ := hs₅
  replace he₅ : IsEnum h₅ e it ((i : Int) + 1) v := he₅
  show wpAny _ _ (Builtin.SmallTypes.ownedTupleHandOut (.ref e) (.ref h₁.objs.size) >>= _) _ _ ⟨h₅, g, d, tk + 1, os⟩
  refine wpAny_bind ?_
  unfold Builtin.SmallTypes.ownedTupleHandOut
  refine wpAny_bind (wpAny_setField_rec he₅ (by simp) fun h₆ he₆ hs₆ => ?_)
  replace hs₆ : Heap.SameBut e h₅ h₆ := hs₆
  replace he₆ : IsEnumOut h₆ e it ((i : Int) + 1) v h₁.objs.size := he₆
  refine wpAny_setField_rec he₆ (by simp) fun h₇ he₇ hs₇ => ?_
  replace hs₇ : Heap.SameBut e h₆ h₇ := hs₇
  replace he₇ : IsEnumOut h₇ e it ((i : Int) + 1) v h₁.objs.size := he₇
  refine wpAny_bind (wpAny_letGo (wpAny_pure ⟨_, rfl, hQ h₁ h₇ md he₇ ?_ ?_ ?_⟩))
  · exact hs₇.extBut _ _ (Nat.ne_of_gt hel) (hs₆.extBut _ _ (Nat.ne_of_gt hel) (hs₅.extBut _ _ (Nat.ne_of_gt hel) ht₄))
  · rw [hs₇.1, hs₆.1, hs₅.1, hz₄]
  · exact fun b o hbe hb => hs₇.extBut b o hbe (hs₆.extBut b o hbe (hs₅.extBut b o hbe (hk₄ b o hbe hb)))
theorem pyNext_enumG {e it : Addr} {i : Nat} {old v : Value} {Q : Option Value → Shared → Prop} (Mid : Heap → Prop) (hin : ∀ (Q' : Value → Shared → Prop) (E' : Value → Shared → Prop), (∀ h', Mid h' → Q' v { s with heap := h' }) → wpAny (model prog w) A.in1 (Builtin.SmallTypes.nextOf (.ref it)) Q' E' s)
    (he : IsEnum s.heap e it i old) (hm : ∀ h', Mid h' → IsEnum h' e it i old)
    (hQ : ∀ h₁ h', Mid h₁ → IsEnumOut h' e it ((i : Int) + 1) v h₁.objs.size → h'.get? h₁.objs.size = some { cls := .type "tuple", data := .seq #[.int i s.toks, v] } → h'.objs.size = h₁.objs.size + 1 →
      (∀ b o, b ≠ e → h₁.get? b = some o → h'.get? b = some o) → Q (some (.ref h₁.objs.size)) { s with heap := h', toks := s.toks + 1 }) :
    wpAny (model prog w) A (pyNext (.ref e)) Q E s := by
  have hT : s.TypeIs (.ref e) "enumerate" := ⟨_, he, rfl⟩
  unfold pyNext
  exact wpAny_bind (wpAny_attempt (wpAny_callSpecial?_slot (name := Str.ofString "__next__") hT F.slot_enumerate_next
    (wpAny_call_entry F.slot_enumerate_next hT F.entry_enumerate_next
      (enumG_item Mid (fun Q' q => hin Q' _ q) he hm fun h₁ h' a b c d k => wpAny_pure (hQ h₁ h' a b c d k)) (F.args_enumerate_next_1 _))))
theorem pyNext_enumG_end {e it : Addr} {i : Int} {old : Value} {Q : Option Value → Shared → Prop} (Mid : Heap → Prop) (hin : ∀ (Q' : Value → Shared → Prop) (E' : Value → Shared → Prop), (∀ h' x, Mid h' → (∃ o, h'.get? x = some o ∧ o.cls = .type "StopIteration") → E' (.ref x) { s with heap := h' }) → wpAny (model prog w) A.in1 (Builtin.SmallTypes.nextOf (.ref it)) Q' E' s)
    (he : IsEnum s.heap e it i old) (hQ : ∀ h', Mid h' → Q none { s with heap := h' }) : wpAny (model prog w) A (pyNext (.ref e)) Q E s := by
  have hT : s.TypeIs (.ref e) "enumerate" := ⟨_, he, rfl⟩
  unfold pyNext
  refine wpAny_bind (wpAny_attempt (wpAny_callSpecial?_slot (name := Str.ofString "__next__") hT F.slot_enumerate_next
    (wpAny_call_entry F.slot_enumerate_next hT F.entry_enumerate_next ?_ (F.args_enumerate_next_1 _))))
  show wpAny _ _ (field (.ref e) 2 >>= _) _ _ _
  refine wpAny_bind (wpAny_field he rfl (x := .ref it) rfl ?_)
  refine wpAny_bind (hin _ _ fun h' x md hx' => ?_)
  obtain ⟨o, ho, hc⟩ := hx'
  refine wpAny_bind (wpAny_isInstance (T := "StopIteration") (b := true) ⟨o, ho, hc⟩ isSubtype_stop ?_)
  exact wpAny_pure (hQ _ md)
end
end BZ
end
section
set_option Elab.async false
set_option linter.all false
set_option maxRecDepth 100000
set_option maxHeartbeats 1000000
namespace BZ
open PySem PySem.Spec PyProof.Rows L2
theorem meets_enumerate_newZ (z TI TO : Addr) :
    Meets (Builtin.«enumerate.__new__» ⟨[.type "enumerate", .ref z], []⟩) (fun _ R s => IsZip s.heap z TI TO .none ∧
      R (.ok (.ret (.ref s.heap.objs.size))) { s with heap := s.heap.push { cls := .type "enumerate", data := .fields #[.none, .bool false, .ref z, rawInt 0, .none, .none] } }) :=
  .of_wp fun prog w A R s h => by
    obtain ⟨hp, g, d, tk, os⟩ := s; obtain ⟨hl, h⟩ := h
    have hsub := sub_enumerate
    have hL : IsZip (Shared.heap ⟨hp, g, d, tk, os⟩) z TI TO .none := hl
    wp_walk using wpAny_loadPart' hl, wpAny_pyIter_zip hL
    refine wpAny_stack_any fun st => wpAny_pure ?_
    split
    · rename_i c _ _ _ _ _
      cases (c == Value.type "enumerate")
      · wp_walk using wpAny_loadPart' hl, wpAny_pyIter_zip hL
        exact ⟨_, rfl, h⟩
      · wp_walk using wpAny_loadPart' hl, wpAny_pyIter_zip hL
        exact ⟨_, rfl, h⟩
    · wp_walk using wpAny_loadPart' hl, wpAny_pyIter_zip hL
      exact ⟨_, rfl, h⟩
section
variable {prog : Program} {w : World} {A : Around} {E : Value → Shared → Prop} {s : Shared}
theorem call_enumerate_zip {z TI TO : Addr} {Q : Value → Shared → Prop} (hL : IsZip s.heap z TI TO .none)
    (h : ∀ h', IsEnum h' s.heap.objs.size z 0 .none → h'.objs.size = s.heap.objs.size + 1 →
      (∀ b o, s.heap.get? b = some o → h'.get? b = some o) → Q (.ref s.heap.objs.size) { s with heap := h' }) :
    wpAny (model prog w) A (call (.type "enumerate") [.ref z]) Q E s := by
  refine callType_new F.called_enumerate (by decide) (F.typeCall_enumerate_1 _) (F.newCall_enumerate_1 _) (fun obj => F.args_object_init_2 obj _) F.entry_enumerate_new
    (meets_enumerate_newZ z TI TO) ⟨hL, ?_⟩
  show _ ∧ _
  have he := Heap.get?_push_size s.heap (o := { cls := .type "enumerate", data := .fields #[.none, .bool false, .ref z, rawInt 0, .none, .none] }) rfl
  exact ⟨⟨_, he, rfl⟩, h _ he (Heap.size_push ..) fun b o x => Heap.get?_push_of_some _ x⟩
end
end BZ
end
section
set_option Elab.async false
set_option linter.all false
set_option maxRecDepth 100000
set_option maxHeartbeats 1000000
namespace BZ
open PySem PySem.Spec PyProof.Rows L2
/-- the pairs (i, (x, y)) of two lists -/
def Itez (K : PySem.W.Frag) (a b : Addr) : It :=
  ⟨fun i H => ∃ (xs ys : List V) (x y : V), SqL K H a xs ∧ SqL K H b ys ∧ xs[i]? = some x ∧ ys[i]? = some y,
    fun i H v H' => ∃ T T2 x y, v = .ref T2 ∧ H T = none ∧ H T2 = none ∧ T ≠ T2 ∧ H' = upd (upd H T (.tup [x, y])) T2 (.tup [.int (i : Nat), .ref T]) ∧ (∀ xs, SqL K H a xs → xs[i]? = some x) ∧ ∀ ys, SqL K H b ys → ys[i]? = some y,
    fun i H => ∃ xs ys : List V, SqL K H a xs ∧ SqL K H b ys ∧ (xs.length ≤ i ∨ ys.length ≤ i)⟩
theorem enzip_obj {a b z TI TO i1 i2 e : Addr} {i : Nat} {h : Heap} (st : (∃ old, IsEnum h e z i old) ∧ ZSt z TI TO i1 i2 a b i h) : ∀ c ∈ e :: zfp z TI TO i1 i2, ∃ o, h.get? c = some o ∧ ∀ v, o.data ≠ .cell v := fun c hc => by
  obtain ⟨⟨old, he0⟩, ⟨v, f, hz, _⟩, hTI, ⟨x, y, hTO⟩, ⟨o1, e1, _, d1⟩, ⟨o2, e2, _, d2⟩⟩ := st
  have e' : c = e ∨ c = z ∨ c = TI ∨ c = TO ∨ c = i1 ∨ c = i2 := by simpa using hc
  rcases e' with q | q | q | q | q | q
  · rw [q]; exact ⟨_, he0, fun v q => nomatch q⟩
  · rw [q]; exact ⟨_, hz, fun v q => nomatch q⟩
  · rw [q]; exact ⟨_, hTI, fun v q => nomatch q⟩
  · rw [q]; exact ⟨_, hTO, fun v q => nomatch q⟩
  · rw [q]; exact ⟨o1, e1, fun v q => by rw [d1] at q; cases q⟩
  · rw [q]; exact ⟨o2, e2, fun v q => by rw [d2] at q; cases q⟩
theorem turn_enzip {P : Program} {w : World} {K : PySem.W.Frag} {elts : List Expr} {kk : Nat} {tpos : Pos} {a b z TI TO i1 i2 e : Addr} (D : ZipApart z TI TO i1 i2 a b) (hez : e ∉ zfp z TI TO i1 i2) :
    Turn P w K (.Tuple elts kk tpos) (Itez K a b) (e :: zfp z TI TO i1 i2) e (fun i h => (∃ old, IsEnum h e z i old) ∧ ZSt z TI TO i1 i2 a b i h) where
  mem := by simp
  obj := fun i h st c hc => enzip_obj st c hc
  keep := fun i h h' st k => ⟨let ⟨old, q⟩ := st.1; ⟨old, k e (by simp) _ q⟩, st.2.keep fun c hc o q => k c (List.mem_cons_of_mem _ hc) o q⟩
  item := by
    intro X hP hw hK hc i pins s σ H E I hf st hg
    subst hP hw hK
    have hob := enzip_obj st
    obtain ⟨⟨old, he0⟩, zs⟩ := st
    obtain ⟨xs, ys, x, y, hqx, hqy, hx, hy⟩ := hg
    obtain ⟨its, rv, p, _⟩ := I.list hqx
    obtain ⟨its2, rv2, p2, _⟩ := I.list hqy
    obtain ⟨u, hu, ru⟩ := rv.get hx
    obtain ⟨u2, hu2, ru2⟩ := rv2.get hy
    have hlt : ∀ c ∈ e :: zfp z TI TO i1 i2, c < s.heap.objs.size := fun c hcm => by
      obtain ⟨o, ho, _⟩ := hob c hcm
      exact Heap.lt_size ho
    have hel := hlt e (by simp)
    refine pyNext_enumG (v := .ref s.heap.objs.size) (fun h1 => ZSt z TI TO i1 i2 a b (i + 1) h1 ∧ IsPair h1 s.heap.objs.size u u2 ∧ h1.objs.size = s.heap.objs.size + 1 ∧ ∀ c o, c ∉ zfp z TI TO i1 i2 → s.heap.get? c = some o → h1.get? c = some o)
      (fun Q' E' q => nextOf_zip_item D zs p.isList p2.isList (by simpa using hu) (by simpa using hu2) fun h' a1 a2 a3 a4 => q h' ⟨a1, a2, a3, a4⟩) he0 (fun h' m => m.2.2.2 _ _ hez he0) fun h₁ h' ⟨m1, m2, m3, m4⟩ ho hT hsz hk => ?_
    refine ⟨_, rfl, wpAny_letOwnedTupleGo_enum (s := { s with heap := h', toks := s.toks + 1 }) ho fun h'' he' sb => ?_⟩
    have new1 : ObjOk X.prog X.w (upd H s.heap.objs.size (.tup [x, y])) h₁ s.heap.objs.size (.tup [x, y]) :=
      ⟨by show 2 ≤ sizeLine; decide, [u, u2], .cons ru (.cons ru2 .nil), ⟨_, m2, rfl, _, rfl⟩⟩
    have I1 : Inv X pins σ (upd H s.heap.objs.size (.tup [x, y])) { s with heap := h₁ } :=
      I.turnedNew (t' := s.toks) (ch := zfp z TI TO i1 i2) (fun c o hb q => m4 c o hb q) (fun b hb => hf b (List.mem_cons_of_mem _ hb)) (Nat.le_refl _) new1
    replace m3 : h₁.objs.size = s.heap.objs.size + 1 := m3
    have hle1 : s.heap.objs.size ≤ h₁.objs.size := by rw [m3]; exact Nat.le_succ _
    have hel1 : e < h₁.objs.size := Nat.lt_of_lt_of_le hel hle1
    have hT2 : h''.get? h₁.objs.size = some { cls := .type "tuple", data := .seq #[.int i s.toks, .ref s.heap.objs.size] } := (sb.2 _ (Nat.ne_of_gt hel1)).trans hT
    have new2 : ObjOk X.prog X.w (upd (upd H s.heap.objs.size (.tup [x, y])) h₁.objs.size (.tup [.int (i : Nat), .ref s.heap.objs.size])) h'' h₁.objs.size (.tup [.int (i : Nat), .ref s.heap.objs.size]) :=
      ⟨by show 2 ≤ sizeLine; decide, [.int i s.toks, .ref s.heap.objs.size], .cons ⟨_, rfl⟩ (.cons rfl .nil), ⟨_, hT2, rfl, _, rfl⟩⟩
    have up : ∀ c o, c ≠ e → h₁.get? c = some o → h''.get? c = some o := fun c o n q => (sb.2 c n).trans (hk c o n q)
    have I2 : Inv X pins σ (upd (upd H s.heap.objs.size (.tup [x, y])) h₁.objs.size (.tup [.int (i : Nat), .ref s.heap.objs.size])) { s with heap := h'', toks := s.toks + 1 } :=
      I1.turnedNew (t' := s.toks + 1) (ch := [e]) (fun c o hb q => up c o (fun q' => hb (by simp [q'])) q) (fun b hb => by
        have e1 : b = e := by simpa using hb
        subst e1
        have f := hf b (by simp)
        exact ⟨by rw [upd_ne (Nat.ne_of_lt hel)]; exact f.1, f.2⟩) (Nat.le_refl _) new2
    refine ⟨.ref h₁.objs.size, _, I2, rfl, ⟨s.heap.objs.size, h₁.objs.size, x, y, rfl, I.hok.fresh (Nat.le_refl _), I.hok.fresh hle1, Nat.ne_of_lt (by rw [m3]; exact Nat.lt_succ_self _), rfl, fun l hl => by rw [I.list_inj hl hqx]; exact hx, fun l hl => by rw [I.list_inj hl hqy]; exact hy⟩, ⟨⟨.ref s.heap.objs.size, ?_⟩, m1.keep fun c hcm o q => up c o (fun q' => hez (q' ▸ hcm)) q⟩, fun c hcm => ?_⟩
    · have e1 : ((i + 1 : Nat) : Int) = (i : Int) + 1 := by omega
      rw [e1]; exact he'
    · have h1 := hlt c hcm
      rw [upd_ne (Nat.ne_of_lt (Nat.lt_of_lt_of_le h1 hle1)), upd_ne (Nat.ne_of_lt h1)]
      exact (hf c hcm).1
  done := by
    intro X hP hw hK hc i pins s σ H E I hf st hg
    subst hP hw hK
    obtain ⟨⟨old, he0⟩, zs⟩ := st
    obtain ⟨xs, ys, hqx, hqy, hend⟩ := hg
    obtain ⟨its, rv, p, _⟩ := I.list hqx
    obtain ⟨its2, rv2, p2, _⟩ := I.list hqy
    have l1 := rv.length
    have l2 := rv2.length
    have he : its.toArray[i]? = none ∨ its2.toArray[i]? = none := by
      rcases hend with q | q
      · exact .inl (by simp; omega)
      · exact .inr (by simp; omega)
    exact pyNext_enumG_end (fun h' => ∀ c o, c ∉ zfp z TI TO i1 i2 → s.heap.get? c = some o → h'.get? c = some o) (fun Q' E' q => nextOf_zip_end (I.ok.hd hc) D zs p.isList p2.isList he fun h' e' k he' => q h' e' k he') he0 fun h' k =>
      ⟨rfl, I.turnedL (t' := s.toks) (ch := zfp z TI TO i1 i2) (fun c o hb q => k c o hb q) (fun b hb => hf b (List.mem_cons_of_mem _ hb))⟩
  self := fun A i s Q E st h => let ⟨⟨_, he⟩, _⟩ := st; wpAny_pyIter_enum he h
def iEzA (K : PySem.W.Frag) (ta : TA) : TI := fun σ H R => ta σ H fun vs H1 => ∃ a b xs ys, vs = [.ref a, .ref b] ∧ SqL K H1 a xs ∧ SqL K H1 b ys ∧ R (Itez K a b) H1
theorem pi_enzip {X : Cx} {e e2 : Expr} {ta : TA} {p p2 pos pos2 tpos : Pos} {elts : List Expr} {kk : Nat} (hg : Gl X "enumerate") (hm : X.mg "enumerate" = none) (hgz : Gl X "zip") (hmz : X.mg "zip" = none) (ha : PA X [e, e2] ta)
    (hs1 : starEach [.Call (.Name "zip" p2) [e, e2] [] pos2] X.env = [(false, eval (.Call (.Name "zip" p2) [e, e2] [] pos2) X.env)] := by rfl)
    (hs : starEach [e, e2] X.env = (false, eval e X.env) :: starEach [e2] X.env := by rfl) (hpl : (backTo pos2 (starEach [e2] X.env)).any (·.1) = false := by rfl) :
    PI X (.Tuple elts kk tpos) (.Call (.Name "enumerate" p) [.Call (.Name "zip" p2) [e, e2] [] pos2] [] pos) (iEzA X.K ta) := by
  refine ⟨fun pins s σ H R I h => ?_⟩
  refine PySem.Call_name1 hs1 (ld_blt I hg hm boot_enumerate (PySem.callWith_type1 ?_))
  refine Call_ (ld_blt I hgz hmz PyProof.Rows.boot_zip (PyProof.Rows.callWith_type1 (thn (ha.run pos2 pins s σ H _ I h) fun us s1 ⟨vs, H1, I1, r1, q1⟩ => ?_) hs hpl))
  obtain ⟨a, b, xs, ys, ex, hqx, hqy, q⟩ := q1
  subst ex
  cases r1 with
  | cons r rr =>
    cases rr with
    | cons r' rr =>
      cases rr
      cases r
      cases r'
      obtain ⟨its, rv, p1, _⟩ := I1.list hqx
      obtain ⟨its2, rv2, p2, _⟩ := I1.list hqy
      refine call_zip_2 p1.isList p2.isList fun h' hz hTI hTO h1 h2 hsz hk => call_enumerate_zip hz fun h'' he hsz' hk' => wpAny_pyIter_enum he ?_
      have I2 : Inv X pins σ H1 { s1 with heap := h'' } := I1.kept (t' := s1.toks) fun b o q => hk' b o (hk b o q)
      replace hsz' : h''.objs.size = h'.objs.size + 1 := hsz'
      have fresh6 : ∀ c, c ∈ h'.objs.size :: zfp (s1.heap.objs.size + 4) (s1.heap.objs.size + 2) (s1.heap.objs.size + 3) s1.heap.objs.size (s1.heap.objs.size + 1) → FpOk X pins H1 c := fun c hcm => by
        have e' : c = h'.objs.size ∨ c = s1.heap.objs.size + 4 ∨ c = s1.heap.objs.size + 2 ∨ c = s1.heap.objs.size + 3 ∨ c = s1.heap.objs.size ∨ c = s1.heap.objs.size + 1 := by simpa using hcm
        have hle : s1.heap.objs.size ≤ c := by omega
        exact I1.fpOk hle (I1.hok.fresh hle)
      refine ⟨h'.objs.size, _, _, _, H1, rfl, I2, turn_enzip (PySem.W.ktu_apart s1.heap.objs.size a b p1.lt p2.lt) (fun hm => ?_), ⟨⟨_, he⟩, (show ZSt _ _ _ _ _ a b 0 h' from ⟨⟨_, _, hz, .inl rfl⟩, hTI, ⟨_, _, hTO⟩, h1, h2⟩).keep fun c _ o q => hk' c o q⟩, fresh6, q⟩
      have e' : h'.objs.size = s1.heap.objs.size + 4 ∨ h'.objs.size = s1.heap.objs.size + 2 ∨ h'.objs.size = s1.heap.objs.size + 3 ∨ h'.objs.size = s1.heap.objs.size ∨ h'.objs.size = s1.heap.objs.size + 1 := by simpa using hm
      omega
end BZ
end
section
set_option Elab.async false
set_option linter.all false
set_option maxRecDepth 100000
set_option maxHeartbeats 1000000
namespace BZ
open PySem PySem.Spec PyProof.Rows L2
theorem zipL_get : ∀ (l m : List D) (i : Nat) (d : D), (zipL l m)[i]? = some d → ∃ x y, l[i]? = some x ∧ m[i]? = some y ∧ d = .tup [x, y]
  | [], _, i, d, h => by simp [zipL] at h
  | _ :: _, [], i, d, h => by simp [zipL] at h
  | x :: l, y :: m, 0, d, h => by
    have h : some (D.tup [x, y]) = some d := h
    cases h
    exact ⟨x, y, rfl, rfl, rfl⟩
  | x :: l, y :: m, i + 1, d, h => zipL_get l m i d h
theorem zipL_lt : ∀ (l m : List D) (i : Nat), i < (zipL l m).length → i < l.length ∧ i < m.length
  | [], _, i, h => by simp [zipL] at h
  | _ :: _, [], i, h => by simp [zipL] at h
  | x :: l, y :: m, 0, h => ⟨Nat.succ_pos _, Nat.succ_pos _⟩
  | x :: l, y :: m, i + 1, h => by
    have := zipL_lt l m i (Nat.lt_of_succ_lt_succ h)
    exact ⟨Nat.succ_lt_succ this.1, Nat.succ_lt_succ this.2⟩
theorem zipL_ge : ∀ (l m : List D) (i : Nat), (zipL l m).length ≤ i → l.length ≤ i ∨ m.length ≤ i
  | [], _, i, h => .inl (Nat.zero_le _)
  | _ :: _, [], i, h => .inr (Nat.zero_le _)
  | x :: l, y :: m, 0, h => absurd h (Nat.not_succ_le_zero _)
  | x :: l, y :: m, i + 1, h => by
    rcases zipL_ge l m i (Nat.le_of_succ_le_succ h) with q | q
    · exact .inl (Nat.succ_le_succ q)
    · exact .inr (Nat.succ_le_succ q)
section
variable {X : Cx} {F : Frm} {Wx : WX} {a b : Expr} {es elts : List Expr} {pos p tpos pos2 p2 : Pos} {ms : M (List D)}
def zipD (ds : List D) : M (List D) := fun ρ => match ds with
  | [.lst l, .lst m] => .ok (zipL l m) ρ
  | [.tup l, .tup m] => .ok (zipL l m) ρ
  | _ => .no
def enzipD (ds : List D) : M (List D) := fun ρ => match ds with
  | [.lst l, .lst m] => .ok (enumL 0 (zipL l m)) ρ
  | _ => .no
abbrev iZip (ms : M (List D)) : M (List D) := ms >>= zipD
abbrev iEnZip (ms : M (List D)) : M (List D) := ms >>= enzipD
theorem walk_zip {K : Kw} {G : Hp} {α : Al} {a b : Addr} {l m : List D} {xs ys : List V} (h1 : G a = some (.lst xs)) (h2 : G b = some (.lst ys)) (r1 : RepL K G α l xs) (r2 : RepL K G α m ys) : WalkOk K (Itz K.K a b) (zipL l m) G α := fun F ρ G1 α1 σ H w x => by
  have s1 : SqL K.K H a xs := SqL.of (w.sub _ _ (x.g _ _ h1))
  have s2 : SqL K.K H b ys := SqL.of (w.sub _ _ (x.g _ _ h2))
  have r1 := RepL.ext x _ _ r1
  have r2 := RepL.ext x _ _ r2
  refine ⟨fun i hi => ?_, fun i hi => ⟨xs, ys, s1, s2, by rw [r1.length, r2.length]; exact zipL_ge l m i hi⟩, fun i d y H' e q => ?_⟩
  · obtain ⟨q1, q2⟩ := zipL_lt l m i hi
    obtain ⟨v1, e1, _⟩ := r1.get (List.getElem?_eq_getElem q1)
    obtain ⟨v2, e2, _⟩ := r2.get (List.getElem?_eq_getElem q2)
    exact ⟨xs, ys, v1, v2, s1, s2, e1, e2⟩
  · obtain ⟨T, x0, y0, rfl, nT, rfl, q1, q2⟩ := q
    obtain ⟨d1, d2, e1, e2, rfl⟩ := zipL_get l m i d e
    obtain ⟨v1, f1, g1⟩ := r1.get e1
    obtain ⟨v2, f2, g2⟩ := r2.get e2
    have := q1 xs s1
    rw [f1] at this; cases this
    have := q2 ys s2
    rw [f2] at this; cases this
    exact pair_new w nT (RepL.cons g1 (RepL.cons g2 RepL.nil))
theorem walk_zipT {K : Kw} {G : Hp} {α : Al} {a b : Addr} {l m : List D} {xs ys : List V} (h1 : SqT K.K G a xs) (h2 : SqT K.K G b ys) (r1 : RepL K G α l xs) (r2 : RepL K G α m ys) : WalkOk K (RZ.ItzT K.K a b) (zipL l m) G α := fun F ρ G1 α1 σ H w x => by
  have s1 : SqT K.K H a xs := SqT.sub (SqT.sub h1 fun a o => x.g a o) w.sub
  have s2 : SqT K.K H b ys := SqT.sub (SqT.sub h2 fun a o => x.g a o) w.sub
  have r1 := RepL.ext x _ _ r1
  have r2 := RepL.ext x _ _ r2
  refine ⟨fun i hi => ?_, fun i hi => ⟨xs, ys, s1, s2, by rw [r1.length, r2.length]; exact zipL_ge l m i hi⟩, fun i d y H' e q => ?_⟩
  · obtain ⟨q1, q2⟩ := zipL_lt l m i hi
    obtain ⟨v1, e1, _⟩ := r1.get (List.getElem?_eq_getElem q1)
    obtain ⟨v2, e2, _⟩ := r2.get (List.getElem?_eq_getElem q2)
    exact ⟨xs, ys, v1, v2, s1, s2, e1, e2⟩
  · obtain ⟨T, x0, y0, rfl, nT, rfl, q1, q2⟩ := q
    obtain ⟨d1, d2, e1, e2, rfl⟩ := zipL_get l m i d e
    obtain ⟨v1, f1, g1⟩ := r1.get e1
    obtain ⟨v2, f2, g2⟩ := r2.get e2
    have := q1 xs s1
    rw [f1] at this; cases this
    have := q2 ys s2
    rw [f2] at this; cases this
    exact pair_new w nT (RepL.cons g1 (RepL.cons g2 RepL.nil))
theorem walk_enzip {K : Kw} {G : Hp} {α : Al} {a b : Addr} {l m : List D} {xs ys : List V} (h1 : G a = some (.lst xs)) (h2 : G b = some (.lst ys)) (r1 : RepL K G α l xs) (r2 : RepL K G α m ys) : WalkOk K (Itez K.K a b) (enumL 0 (zipL l m)) G α := fun F ρ G1 α1 σ H w x => by
  have s1 : SqL K.K H a xs := SqL.of (w.sub _ _ (x.g _ _ h1))
  have s2 : SqL K.K H b ys := SqL.of (w.sub _ _ (x.g _ _ h2))
  have r1 := RepL.ext x _ _ r1
  have r2 := RepL.ext x _ _ r2
  refine ⟨fun i hi => ?_, fun i hi => ⟨xs, ys, s1, s2, by rw [r1.length, r2.length]; exact zipL_ge l m i (by rw [← enumL_len (zipL l m) 0]; exact hi)⟩, fun i d y H' e q => ?_⟩
  · rw [enumL_len] at hi
    obtain ⟨q1, q2⟩ := zipL_lt l m i hi
    obtain ⟨v1, e1, _⟩ := r1.get (List.getElem?_eq_getElem q1)
    obtain ⟨v2, e2, _⟩ := r2.get (List.getElem?_eq_getElem q2)
    exact ⟨xs, ys, v1, v2, s1, s2, e1, e2⟩
  · obtain ⟨T, T2, x0, y0, rfl, nT, nT2, nn, rfl, q1, q2⟩ := q
    rw [enumL_get] at e
    cases e0 : (zipL l m)[i]? with
    | none => rw [e0] at e; cases e
    | some d0 =>
      rw [e0] at e
      cases e
      obtain ⟨d1, d2, e1, e2, rfl⟩ := zipL_get l m i _ e0
      obtain ⟨v1, f1, g1⟩ := r1.get e1
      obtain ⟨v2, f2, g2⟩ := r2.get e2
      have := q1 xs s1
      rw [f1] at this; cases this
      have := q2 ys s2
      rw [f2] at this; cases this
      obtain ⟨G2, w2, x2, p2, k2, n2⟩ := pair_new w nT (RepL.cons g1 (RepL.cons g2 RepL.nil))
      have z : ((0 + i : Nat) : Int) = (i : Nat) := by simp
      rw [z]
      obtain ⟨G3, w3, x3, p3, k3, n3⟩ := pair_new (T := T2) (xs := [.int (i : Nat), .ref T]) (ds := [.int (i : Nat), .tup [d1, d2]]) w2 (by rw [upd_ne (Ne.symm nn)]; exact nT2) (RepL.cons (by unfold Rep; rfl) (RepL.cons p2 RepL.nil))
      refine ⟨G3, w3, x2.trans x3, p3, fun a o e => k3 a o (k2 a o e), fun a o e => ?_⟩
      rcases n3 a o e with ⟨u, e'⟩ | e'
      · exact n2 a u e'
      · by_cases q : a = T
        · exact .inr (by rw [q]; exact nT)
        · rw [upd_ne q] at e'
          exact .inr e'
theorem pid_zip {kk : Nat} (hg : Gl X "zip") (hm : X.mg "zip" = none) (ha : PDA X F Wx [a, b] ms) (hs : starEach [a, b] X.env = (false, eval a X.env) :: starEach [b] X.env := by rfl) (hpl : (backTo pos (starEach [b] X.env)).any (·.1) = false := by rfl) :
    PID X F Wx (.Tuple elts kk tpos) (.Call (.Name "zip" p) [a, b] [] pos) (ms >>= zipD) := PI.of fun σ H Rr ⟨ρ, G, α, w, h⟩ =>
  ⟨_, RZ.pi_zipA hg hm ha hs hpl, ρ, G, α, w, h.bind.imp fun ds ρ1 q vs H1 G1 α1 w1 x1 r1 => by
    unfold zipD at q
    split at q
    · obtain ⟨v, v', rfl, ra, rb⟩ := two_of r1
      have ra : Rep (kw X) G1 α1 (.lst _) v := ra
      have rb : Rep (kw X) G1 α1 (.lst _) v' := rb
      unfold Rep at ra rb
      obtain ⟨a, xs, rfl, h1, ra⟩ := ra
      obtain ⟨b, ys, rfl, h2, rb⟩ := rb
      exact ⟨a, b, xs, ys, rfl, .inl ⟨SqL.of (w1.sub _ _ h1), SqL.of (w1.sub _ _ h2), q _ H1 G1 α1 w1 x1 (walk_zip h1 h2 ra rb)⟩⟩
    · obtain ⟨v, v', rfl, ra, rb⟩ := two_of r1
      have ra : Rep (kw X) G1 α1 (.tup _) v := ra
      have rb : Rep (kw X) G1 α1 (.tup _) v' := rb
      unfold Rep at ra rb
      obtain ⟨a, xs, rfl, h1, ra⟩ := ra
      obtain ⟨b, ys, rfl, h2, rb⟩ := rb
      exact ⟨a, b, xs, ys, rfl, .inr ⟨SqT.sub h1 w1.sub, SqT.sub h2 w1.sub, q _ H1 G1 α1 w1 x1 (walk_zipT h1 h2 ra rb)⟩⟩
    · exact q.elim⟩
theorem pid_enzip {kk : Nat} (hg : Gl X "enumerate") (hm : X.mg "enumerate" = none) (hgz : Gl X "zip") (hmz : X.mg "zip" = none) (ha : PDA X F Wx [a, b] ms)
    (hs1 : starEach [.Call (.Name "zip" p2) [a, b] [] pos2] X.env = [(false, eval (.Call (.Name "zip" p2) [a, b] [] pos2) X.env)] := by rfl)
    (hs : starEach [a, b] X.env = (false, eval a X.env) :: starEach [b] X.env := by rfl) (hpl : (backTo pos2 (starEach [b] X.env)).any (·.1) = false := by rfl) :
    PID X F Wx (.Tuple elts kk tpos) (.Call (.Name "enumerate" p) [.Call (.Name "zip" p2) [a, b] [] pos2] [] pos) (ms >>= enzipD) := PI.of fun σ H Rr ⟨ρ, G, α, w, h⟩ =>
  ⟨_, pi_enzip hg hm hgz hmz ha hs1 hs hpl, ρ, G, α, w, h.bind.imp fun ds ρ1 q vs H1 G1 α1 w1 x1 r1 => by
    unfold enzipD at q
    split at q
    · obtain ⟨v, v', rfl, ra, rb⟩ := two_of r1
      have ra : Rep (kw X) G1 α1 (.lst _) v := ra
      have rb : Rep (kw X) G1 α1 (.lst _) v' := rb
      unfold Rep at ra rb
      obtain ⟨a, xs, rfl, h1, ra⟩ := ra
      obtain ⟨b, ys, rfl, h2, rb⟩ := rb
      exact ⟨a, b, xs, ys, rfl, SqL.of (w1.sub _ _ h1), SqL.of (w1.sub _ _ h2), q _ H1 G1 α1 w1 x1 (walk_enzip h1 h2 ra rb)⟩
    · exact q.elim⟩
end
end BZ
end
section
set_option Elab.async false
set_option linter.all false
set_option maxRecDepth 100000
set_option maxHeartbeats 1000000
namespace BZ
open PySem PySem.Spec PyProof.Rows L2
/-! ## the end of a law -/
/-- a def as the top has left it -/
structure FE (K : PySem.W.Frag) (mg : Str → Option Value) (x : Str) (st : Stmt) (f : Addr) (fd : FuncData) (cd : Value) : Prop where
  fn : Fun K x x st f fd
  mg : mg x = some (.ref f)
  kp : PySem.W.keepIn K (.ref f) = true
  cd : fd.code = cd
section
variable {K : PySem.W.Frag} {h : Heap} {mg : Str → Option Value}
theorem fn_entry {x : Str} {st : Stmt} {f : Addr} {oc kV dc pm cd ct : Value} {od an : Option Addr} {sl : Array (Option Value)} (X : K.In h) (G : h.Ns mainGlobals mg) (a : PySem.W.nsIn K mainGlobals x = some (some (.ref f)))
    (l : K.lookup f = some ⟨oc, od, .func (PySem.W.fnOf x x (defArgs st) (defBody st) (defScope st) .none kV dc pm an cd ct), sl⟩) (c : PySem.W.codeIn K cd x = true) (k : PySem.W.keepIn K (.ref f) = true) :
    FE K mg x st f (PySem.W.fnOf x x (defArgs st) (defBody st) (defScope st) .none kV dc pm an cd ct) cd := ⟨fun_mk l c k, PySem.W.mg_of X G a, k, rfl⟩
theorem cal0 {P : Program} {w : World} {base : Heap} {T : Addr → Prop} {k : Nat} {x : Str} {st : Stmt} {f : Fn} {fa : Addr} {fd : FuncData} {cd : Value} (E : FE K mg x st fa fd cd) (ok : FnOk P w K mg base CX0 k fa fd [] (spD T ⟨K, w⟩ mg 0 f))
    (h : ∀ (kV doc pm : Value) (an : Option Addr) (cdv ct : Value) (us : List Value), us.length = 0 → bindArgs (PySem.W.fnOf x x (defArgs st) (defBody st) (defScope st) .none kV doc pm an cdv ct) ⟨us, []⟩ = pure (([] : List Str).zip us) := by exact fun _ _ _ _ _ _ us hl => match us, hl with | [], _ => rfl) :
    CalG P w K mg base T CX0 k x 0 f := ⟨fa, fd, [], ok, E.mg, E.kp, E.fn.binds h⟩
theorem cal1 {P : Program} {w : World} {base : Heap} {T : Addr → Prop} {k : Nat} {x p1 : Str} {st : Stmt} {f : Fn} {fa : Addr} {fd : FuncData} {cd : Value} (E : FE K mg x st fa fd cd) (ok : FnOk P w K mg base CX0 k fa fd [p1] (spD T ⟨K, w⟩ mg 1 f))
    (h : ∀ (kV doc pm : Value) (an : Option Addr) (cdv ct : Value) (us : List Value), us.length = 1 → bindArgs (PySem.W.fnOf x x (defArgs st) (defBody st) (defScope st) .none kV doc pm an cdv ct) ⟨us, []⟩ = pure ([p1].zip us) := by exact fun _ _ _ _ _ _ us hl => match us, hl with | [_], _ => rfl) :
    CalG P w K mg base T CX0 k x 1 f := ⟨fa, fd, [p1], ok, E.mg, E.kp, E.fn.binds h⟩
theorem cal2 {P : Program} {w : World} {base : Heap} {T : Addr → Prop} {k : Nat} {x p1 p2 : Str} {st : Stmt} {f : Fn} {fa : Addr} {fd : FuncData} {cd : Value} (E : FE K mg x st fa fd cd) (ok : FnOk P w K mg base CX0 k fa fd [p1, p2] (spD T ⟨K, w⟩ mg 2 f))
    (h : ∀ (kV doc pm : Value) (an : Option Addr) (cdv ct : Value) (us : List Value), us.length = 2 → bindArgs (PySem.W.fnOf x x (defArgs st) (defBody st) (defScope st) .none kV doc pm an cdv ct) ⟨us, []⟩ = pure ([p1, p2].zip us) := by exact fun _ _ _ _ _ _ us hl => match us, hl with | [_, _], _ => rfl) :
    CalG P w K mg base T CX0 k x 2 f := ⟨fa, fd, [p1, p2], ok, E.mg, E.kp, E.fn.binds h⟩
theorem cal3 {P : Program} {w : World} {base : Heap} {T : Addr → Prop} {k : Nat} {x p1 p2 p3 : Str} {st : Stmt} {f : Fn} {fa : Addr} {fd : FuncData} {cd : Value} (E : FE K mg x st fa fd cd) (ok : FnOk P w K mg base CX0 k fa fd [p1, p2, p3] (spD T ⟨K, w⟩ mg 3 f))
    (h : ∀ (kV doc pm : Value) (an : Option Addr) (cdv ct : Value) (us : List Value), us.length = 3 → bindArgs (PySem.W.fnOf x x (defArgs st) (defBody st) (defScope st) .none kV doc pm an cdv ct) ⟨us, []⟩ = pure ([p1, p2, p3].zip us) := by exact fun _ _ _ _ _ _ us hl => match us, hl with | [_, _, _], _ => rfl) :
    CalG P w K mg base T CX0 k x 3 f := ⟨fa, fd, [p1, p2, p3], ok, E.mg, E.kp, E.fn.binds h⟩
theorem cal4 {P : Program} {w : World} {base : Heap} {T : Addr → Prop} {k : Nat} {x p1 p2 p3 p4 : Str} {st : Stmt} {f : Fn} {fa : Addr} {fd : FuncData} {cd : Value} (E : FE K mg x st fa fd cd) (ok : FnOk P w K mg base CX0 k fa fd [p1, p2, p3, p4] (spD T ⟨K, w⟩ mg 4 f))
    (h : ∀ (kV doc pm : Value) (an : Option Addr) (cdv ct : Value) (us : List Value), us.length = 4 → bindArgs (PySem.W.fnOf x x (defArgs st) (defBody st) (defScope st) .none kV doc pm an cdv ct) ⟨us, []⟩ = pure ([p1, p2, p3, p4].zip us) := by exact fun _ _ _ _ _ _ us hl => match us, hl with | [_, _, _, _], _ => rfl) :
    CalG P w K mg base T CX0 k x 4 f := ⟨fa, fd, [p1, p2, p3, p4], ok, E.mg, E.kp, E.fn.binds h⟩
/-- the code object of a def, its table -/
theorem tab_entry {p : Program} {loose : List Str} {mean : ExcName → Option Value} {mb : Str → Option Value} {x : Str} {st : Stmt} {f c P : Addr} {fd : FuncData} {cd : Value} {d : DefRec} (E : FE K mg x st f fd cd) (X : K.In h) (G : h.Ns mainGlobals mg) (a : PySem.W.nsIn K mainGlobals x = some (some (.ref f))) (T : Top p loose mean mg mb h)
    (hr : (recsOf p).find? (fun e => e.name == x) = some d) (ht : PySem.W.tabIn K x = some (c, P)) : PySem.W.CodeHd h c P ∧ h.get? P = some { cls := .none, data := .fields #[] } ∧ fd.code = .ref c := by
  obtain ⟨h1, h2⟩ := PySem.W.tab_of T X hr ht
  refine ⟨h1, h2, ?_⟩
  obtain ⟨oc, od, kV, doc, pm, an, cdv, ct, osl, rfl, lk, hcd⟩ := E.fn.ex
  unfold PySem.W.tabIn at ht
  rw [a] at ht
  dsimp only at ht
  rw [lk] at ht
  dsimp only at ht
  show cdv = .ref c
  split at ht
  · split at ht
    · split at ht
      · cases ht; rfl
      · cases ht
    · cases ht
  · cases ht
end
theorem TabB.gx {base : Heap} {mg : Str → Option Value} {c P : Addr} (h : LamX.TabB base mg c P) : GxR.TabB base mg c P := ⟨h.code, h.bm, h.gP⟩
/-! ### the promise at the law's entry -/
open Classical in
theorem sp_law {K : PySem.W.Frag} {w : World} {mg : Str → Option Value} {cs : List (Addr × Addr)} {f : Fn} {H : Hp} {a : Addr} {ns : List Int} (hm : ∃ st', f [.scr (ns.map D.int)] [] = .ok (.val (.bl true)) st')
    (hT : ∀ p ∈ cs, H p.2 = some (.tbl #[])) (hS : SqL K H a (ns.map V.int)) : spD (fun P => ∃ p ∈ cs, p.2 = P) ⟨K, w⟩ mg 1 f [.ref a] H (fun v _ => v = .bl true) fun _ _ _ => False := by
  let T : Addr → Prop := fun P => ∃ p ∈ cs, p.2 = P
  let G : Hp := fun b => if T b then none else H b
  have hG : ∀ b o, G b = some o → H b = some o := fun b o e => by
    by_cases q : T b
    · have := (if_pos q).symm.trans e; cases this
    · exact (if_neg q).symm.trans e
  have hG2 : ∀ b o, H b = some o → isTbl o = false → G b = some o := fun b o e n => by
    by_cases q : T b
    · obtain ⟨p, hp, rfl⟩ := q
      rw [hT p hp] at e
      cases e
      cases n
    · exact (if_neg q).trans e
  obtain ⟨st', hm⟩ := hm
  have hSG : SqL K G a (ns.map V.int) := by
    rcases hS with (h | ⟨o, h⟩) | h
    · exact .inl (.inl (hG2 _ _ h rfl))
    · exact .inl (.inr ⟨o, hG2 _ _ h rfl⟩)
    · exact .inr h
  have hL : RepL ⟨K, w⟩ G noAl (ns.map D.int) (ns.map V.int) := by
    clear hS hSG hm
    induction ns with
    | nil => exact RepL.nil
    | cons n r ih => exact RepL.cons (by unfold Rep; rfl) ih
  refine ⟨[.scr (ns.map D.int)], G, noAl, [], ?_, RepL.cons (by unfold Rep; exact ⟨a, _, rfl, hSG, hL⟩) RepL.nil, rfl, ?_⟩
  · refine ⟨hG, rfl, fun i d e => ?_, fun i d e => ?_, fun i d e => ?_, fun i j d d' a e => ?_, fun n d e => ?_, fun n a e => ?_, fun n m a e => ?_, fun n e => rfl, fun a o e _ _ => e, fun a o e => ⟨o, e⟩, fun a o e => .inl ⟨o, e⟩, Nat.le_refl _, fun P ⟨p, hp, e⟩ => ?_⟩
    · simp at e
    · simp at e
    · simp at e
    · simp at e
    · simp at e
    · cases e
    · cases e
    · subst e
      exact ⟨⟨#[], hT p hp, by trivial⟩, if_pos ⟨p, hp, rfl⟩⟩
  · rw [hm]
    intro v H' G' α' w' x' r'
    have r' : Rep ⟨K, w⟩ G' α' (.bl true) v := r'
    unfold Rep at r'
    exact r'
theorem walk_ofTop {l : PySem.W.OpenLaw} {n k : Nat} {q : Program} {loose : List Str} {XP : (Str → Option Value) → Heap → Prop} {YP : World → Heap → Prop} {d : DefRec} {K : Params → PySem.W.Frag} {x : Str}
    (hn : l.most = some n) (hn2 : n ≤ sizeLine) (hdf : d.params.defaults = []) (hr : Room k callerA) (hY : ∀ (w : World) (h : Heap), YP w h → (K w.params).In h)
    (F : ∀ (w : World) (mg mb : Str → Option Value) (fa : Addr) (h : Heap) (loose' : List Str) (mean : ExcName → Option Value), YP w h → (K w.params).In h → h.Ns mainGlobals mg → Top q loose' mean mg mb h → mg d.name = some (.ref fa) → LamX.LawAtS l w (K w.params) CX0 k n x mg fa h) :
    PySem.W.WalkO q loose XP YP l.row.toRowW d [] (fun f vs => PySem.call f vs) := by
  refine Att.attach_callB hn hdf fun w s₀ s₁ mg mb fa o pm cd doc a vs ns G Y ho hd hcd hmg hobj hints hlen hbits hg => ?_
  have KX := hY w _ Y
  obtain ⟨fd, cs, sp, hT, nT, C, hb, hsp, hF⟩ := F w mg mb fa _ _ _ Y KX G.T.g G.T hmg
  exact LamX.law_callTs KX G.T.g G.T.b G.T.builtins G.T.nolimit hg hT nT C G.T.bmain hobj hints (Nat.le_trans hlen hn2) hr hF hb (fun H hH hS => hsp H a ns hlen hbits hH hS) fun H e s' z => z
end BZ
end
section
set_option Elab.async false
set_option linter.all false
set_option maxRecDepth 100000
set_option maxHeartbeats 1000000
namespace BZ
open PySem PySem.Spec PyProof.Rows L2
/-! ## the module's constants -/
mutual
def repB (K : PySem.W.Frag) : D → Value → Bool
  | .non, u => (match u with
    | .none => true
    | _ => false)
  | .bl b, u => (match u with
    | .bool c => b == c
    | _ => false)
  | .int i, u => (match u with
    | .int j _ => decide (i = j)
    | _ => false)
  | .str x, u => (match u with
    | .str y _ => decide (x = y)
    | _ => false)
  | .tup l, u => (match u with
    | .ref a => (match K.lookup a with
      | some ⟨.type c, _, .seq its _, _⟩ => decide (c = "tuple") && (decide (its.size ≤ 1000) && repBs K l its.toList)
      | _ => false)
    | _ => false)
  | _, _ => false
def repBs (K : PySem.W.Frag) : List D → List Value → Bool
  | [], us => us.isEmpty
  | d :: l, us => (match us with
    | u :: r => repB K d u && repBs K l r
    | [] => false)
end
mutual
theorem repB_ok {K : PySem.W.Frag} {w : World} : ∀ (d : D) (u : Value), repB K d u = true → ∃ v, RelV v u ∧ ∀ G α, Rep ⟨K, w⟩ G α d v
  | .non, u, h => by
    unfold repB at h
    split at h
    · exact ⟨.non, rfl, fun _ _ => by unfold Rep; rfl⟩
    · cases h
  | .bl b, u, h => by
    unfold repB at h
    split at h
    · rename_i c
      have e : b = c := eq_of_beq h
      exact ⟨.bl b, by rw [e]; rfl, fun _ _ => by unfold Rep; rfl⟩
    · cases h
  | .int i, u, h => by
    unfold repB at h
    split at h
    · have e := of_decide_eq_true h
      exact ⟨.int i, by rw [e]; exact ⟨_, rfl⟩, fun _ _ => by unfold Rep; rfl⟩
    · cases h
  | .str x, u, h => by
    unfold repB at h
    split at h
    · have e := of_decide_eq_true h
      exact ⟨.str x, by rw [e]; exact ⟨_, rfl⟩, fun _ _ => by unfold Rep; rfl⟩
    · cases h
  | .tup l, u, h => by
    unfold repB at h
    split at h
    · rename_i a
      split at h
      · rename_i c dd its nn sl q
        have h' : c = "tuple" ∧ its.size ≤ 1000 ∧ repBs K l its.toList = true := by simpa using h
        obtain ⟨rfl, h2, h3⟩ := h'
        obtain ⟨xs, h4, h5⟩ := repBs_ok (w := w) l _ h3
        exact ⟨.ref a, rfl, fun G α => by
          unfold Rep
          exact ⟨a, xs, rfl, .inr ⟨_, its, nn, q, rfl, rfl, Nat.le_of_lt (small1000 h2), h4⟩, h5 G α⟩⟩
      · cases h
    · cases h
  | .lst l, u, h => by unfold repB at h; cases h
  | .dct _ _, u, h => by unfold repB at h; cases h
  | .kd _ _, u, h => by unfold repB at h; cases h
  | .scr _, u, h => by unfold repB at h; cases h
  | .loc _, u, h => by unfold repB at h; cases h
  | .sl _, u, h => by unfold repB at h; cases h
theorem repBs_ok {K : PySem.W.Frag} {w : World} : ∀ (l : List D) (us : List Value), repBs K l us = true → ∃ xs, Vals xs us ∧ ∀ G α, RepL ⟨K, w⟩ G α l xs
  | [], us, h => by
    unfold repBs at h
    cases us with
    | nil => exact ⟨[], .nil, fun _ _ => RepL.nil⟩
    | cons _ _ => cases h
  | d :: l, us, h => by
    unfold repBs at h
    cases us with
    | nil => cases h
    | cons u r =>
      have h' : repB K d u = true ∧ repBs K l r = true := by simpa using h
      obtain ⟨v, h1, h2⟩ := repB_ok (w := w) d u h'.1
      obtain ⟨xs, h3, h4⟩ := repBs_ok (w := w) l r h'.2
      exact ⟨v :: xs, .cons h1 h3, fun G α => RepL.cons (h2 G α) (h4 G α)⟩
end
section
variable {K : PySem.W.Frag} {h : Heap} {mg : Str → Option Value} {w : World}
theorem glob_mk {x : Str} {d : D} {u : Value} (X : K.In h) (G : h.Ns mainGlobals mg) (a : PySem.W.nsIn K mainGlobals x = some (some u)) (c : repB K d u = true) : GlobG w K mg x d := by
  obtain ⟨v, h1, h2⟩ := repB_ok (w := w) d u c
  exact ⟨v, u, PySem.W.mg_of X G a, h1, h2⟩
def keyB : List D → List DictEntry → Bool
  | [], es => es.isEmpty
  | d :: r, es => (match es with
    | e :: l => (match d, e.key with
      | .str x, .str y _ => decide (x = y) && keyB r l
      | _, _ => false)
    | [] => false)
theorem keyB_ok : ∀ (ks : List D) (es : List DictEntry), keyB ks es = true → KdKeys ks es
  | [], es, h => by
    unfold keyB at h
    unfold KdKeys
    exact List.isEmpty_iff.mp h
  | d :: r, es, h => by
    unfold keyB at h
    unfold KdKeys
    cases es with
    | nil => cases h
    | cons e l =>
      dsimp only at h
      split at h
      · rename_i x y t q
        have h' : x = y ∧ keyB r l = true := by simpa using h
        exact ⟨e, l, x, t, rfl, rfl, by rw [h'.1]; exact q, keyB_ok r l h'.2⟩
      · cases h
theorem globD_mk {x : Str} {ks vs : List D} {d : Addr} {es : Array DictEntry} {n : Nat} {ss : List Str} (X : K.In h) (G : h.Ns mainGlobals mg) (a : PySem.W.nsIn K mainGlobals x = some (some (.ref d)))
    (l : K.lookup d = some ⟨.type "dict", none, .dict es n, #[]⟩) (lit : es.toList.map He.keyOf = He.keysIn w.params ss) (low : (d == sysModules) = false) (ck : keyB ks es.toList = true) (cv : repBs K vs (es.toList.map (·.val)) = true) : GlobG w K mg x (.kd ks vs) := by
  obtain ⟨xs, h1, h2⟩ := repBs_ok (w := w) vs _ cv
  exact ⟨.ref d, .ref d, PySem.W.mg_of X G a, rfl, fun G α => by
    unfold Rep
    exact ⟨d, es, n, xs, rfl, ⟨l, He.keysLit_of lit, low⟩, keyB_ok _ _ ck, h2 G α, h1⟩⟩
/-- a def with its code object's table -/
structure FT (K : PySem.W.Frag) (h : Heap) (mg : Str → Option Value) (x : Str) (st : Stmt) (f : Addr) (fd : FuncData) (c P : Addr) : Prop where
  fe : FE K mg x st f fd (.ref c)
  hd : PySem.W.CodeHd h c P
  tb : h.get? P = some { cls := .none, data := .fields #[] }
  nk : K.lookup P = none
theorem fn_entryT {p : Program} {loose : List Str} {mean : ExcName → Option Value} {mb : Str → Option Value} {x : Str} {st : Stmt} {f c P : Addr} {oc kV dc pm ct : Value} {od an : Option Addr} {sl : Array (Option Value)} {dr : DefRec} (X : K.In h) (G : h.Ns mainGlobals mg) (T : Top p loose mean mg mb h) (a : PySem.W.nsIn K mainGlobals x = some (some (.ref f)))
    (l : K.lookup f = some ⟨oc, od, .func (PySem.W.fnOf x x (defArgs st) (defBody st) (defScope st) .none kV dc pm an (.ref c) ct), sl⟩) (c' : PySem.W.codeIn K (.ref c) x = true) (k : PySem.W.keepIn K (.ref f) = true)
    (hr : (recsOf p).find? (fun e => e.name == x) = some dr) {oc' : Value} {od' : Option Addr} {vs : Array Value} {sl' : Array (Option Value)} (lc : K.lookup c = some ⟨oc', od', .fields vs, sl'⟩) (hv : (vs[11]? : Option Value) = some (.ref P)) (nk : K.lookup P = none) :
    FT K h mg x st f (PySem.W.fnOf x x (defArgs st) (defBody st) (defScope st) .none kV dc pm an (.ref c) ct) c P := by
  have ht : PySem.W.tabIn K x = some (c, P) := by
    unfold PySem.W.tabIn
    rw [a]
    dsimp only
    rw [l]
    show (match K.lookup c with
      | some ⟨_, _, .fields vs, _⟩ => (match (vs[11]? : Option Value) with
        | some (.ref P) => some (c, P)
        | _ => none)
      | _ => none) = some (c, P)
    rw [lc]
    dsimp only
    rw [hv]
  have E := fn_entry X G a l c' k
  obtain ⟨h1, h2, h3⟩ := tab_entry E X G a T hr ht
  exact ⟨⟨E.fn, E.mg, E.kp, h3⟩, h1, h2, nk⟩
end
end BZ
namespace BZ
open PySem PySem.Spec PyProof.Rows L2
abbrev kOf {K : PySem.W.Frag} {h : Heap} (_ : K.In h) : PySem.W.Frag := K
theorem fe_bindsTo {K : PySem.W.Frag} {mg : Str → Option Value} {x p1 : Str} {st : Stmt} {f : Addr} {fd : FuncData} {cd : Value} (E : FE K mg x st f fd cd)
    (h : ∀ (kV doc pm : Value) (an : Option Addr) (cdv ct u : Value), bindArgs (PySem.W.fnOf x x (defArgs st) (defBody st) (defScope st) .none kV doc pm an cdv ct) ⟨[u], []⟩ = pure [(p1, u)]) (s : Shared) (u : Value) : BindsTo s fd ⟨[u], []⟩ [(p1, u)] := by
  obtain ⟨oc, od, kV, doc, pm, an, cdv, ct, osl, rfl, lk, hcd⟩ := E.fn.ex
  exact .of_eq (h kV doc pm an cdv ct u)
end BZ
end
section
set_option Elab.async false
set_option linter.all false
set_option maxRecDepth 100000
namespace BZ.k01
open PySem PySem.Spec PyProof.Rows L2 BZ
def top (i : Nat) : Stmt := PySem.Challenge.pw_blazonstold_k01_tinctures_and_hatchings.main.body.getD i (.Pass ⟨0, 0, 0, 0⟩)
def g_METALS : D := .tup [((.str "or")), ((.str "argent"))]
def g_COLOURS : D := .tup [((.str "gules")), ((.str "azure")), ((.str "sable")), ((.str "vert")), ((.str "purpure"))]
def g_FURS : D := .tup [((.str "ermine")), ((.str "vair"))]
def g_TINCTURES : D := .tup [((.str "or")), ((.str "argent")), ((.str "gules")), ((.str "azure")), ((.str "sable")), ((.str "vert")), ((.str "purpure")), ((.str "ermine")), ((.str "vair"))]
def g_LETTERS : D := .kd [((.str "or")), ((.str "argent")), ((.str "gules")), ((.str "azure")), ((.str "sable")), ((.str "vert")), ((.str "purpure")), ((.str "ermine")), ((.str "vair"))] [((.str "O")), ((.str "A")), ((.str "G")), ((.str "B")), ((.str "S")), ((.str "V")), ((.str "P")), ((.str "E")), ((.str "W"))]
def g_HATCHES : D := .kd [((.str "or")), ((.str "argent")), ((.str "gules")), ((.str "azure")), ((.str "sable")), ((.str "vert")), ((.str "purpure")), ((.str "ermine")), ((.str "vair"))] [((.str ". ")), ((.str "  ")), ((.str "||")), ((.str "--")), ((.str "##")), ((.str "\\ ")), ((.str "/ ")), ((.str "^ ")), ((.str "v^"))]
abbrev t_is_tincture : Stmt := top 7
theorem sc_is_tincture : FnScope ["value"] ["value"] (defScope t_is_tincture) := ⟨rfl, rfl, rfl, by decide +kernel, rfl, by decide +kernel, by decide +kernel⟩
def m_is_tincture : SM :=
 sRet (eAnd (eOp1 (isiD "str") (rd 0)) (eBin inD (rd 0) (ret g_TINCTURES)))
@[irreducible] def f_is_tincture : Fn := fnOf 1 m_is_tincture
theorem e_f_is_tincture : f_is_tincture = fnOf 1 m_is_tincture := by unfold f_is_tincture; rfl
set_option maxHeartbeats 4000000 in
theorem ok_is_tincture {P : Program} {w : World} {K : PySem.W.Frag} {mg : Str → Option Value} {base : Heap} {T : Addr → Prop} {f : Addr} {fd : FuncData} (FU : Fun K "is_tincture" "is_tincture" t_is_tincture f fd) (B_isinstance : mg "isinstance" = none) (B_str : mg "str" = none) (G_TINCTURES : GlobG w K mg "TINCTURES" g_TINCTURES) :
    FnOk P w K mg base CX0 1 f fd ["value"] (spD T ⟨K, w⟩ mg 1 f_is_tincture) := by
  rw [e_f_is_tincture]
  exact
  fn_ok0 (N := ["value"]) (ps := ["value"]) (st := t_is_tincture) (qual := "is_tincture") (x := "is_tincture") (k := 0) (m := m_is_tincture) FU sc_is_tincture (by decide) fun cdv A outer s H E H0 G0 n0 α0 hcd0 hr => 
   pssd_one (psd_ret (pd_and (pd_isi (by rfl) B_isinstance (by rfl) B_str rfl (by decide) (pvd 0 (pv 0))) (pd_and1 (pd_cmp (in_or (Room.u65 hr)) in_f (pvd 0 (pv 0)) (pgl G_TINCTURES (by rfl)) rfl))))
abbrev t_kind : Stmt := top 8
theorem sc_kind : FnScope ["tincture"] ["tincture"] (defScope t_kind) := ⟨rfl, rfl, rfl, by decide +kernel, rfl, by decide +kernel, by decide +kernel⟩
def m_kind : SM :=
 sSeq (sIf (tCmp inD (rd 0) (ret g_METALS)) (sRet (ret (.str "metal"))) (sNext))
 (sRet (eIf (tCmp inD (rd 0) (ret g_COLOURS)) (ret (.str "colour")) (ret (.str "fur"))))
@[irreducible] def f_kind : Fn := fnOf 1 m_kind
theorem e_f_kind : f_kind = fnOf 1 m_kind := by unfold f_kind; rfl
set_option maxHeartbeats 4000000 in
theorem ok_kind {P : Program} {w : World} {K : PySem.W.Frag} {mg : Str → Option Value} {base : Heap} {T : Addr → Prop} {f : Addr} {fd : FuncData} (FU : Fun K "kind" "kind" t_kind f fd) (G_COLOURS : GlobG w K mg "COLOURS" g_COLOURS) (G_METALS : GlobG w K mg "METALS" g_METALS) :
    FnOk P w K mg base CX0 1 f fd ["tincture"] (spD T ⟨K, w⟩ mg 1 f_kind) := by
  rw [e_f_kind]
  exact
  fn_ok0 (N := ["tincture"]) (ps := ["tincture"]) (st := t_kind) (qual := "kind") (x := "kind") (k := 0) (m := m_kind) FU sc_kind (by decide) fun cdv A outer s H E H0 G0 n0 α0 hcd0 hr => 
   pssd_cons (psd_if (pt_cmpD (in_or (Room.u65 hr)) in_f (pvd 0 (pv 0)) (pgl G_METALS (by rfl)) rfl) (pssd_one (psd_ret (pd_str))) (pssd_nil))
    (pssd_one (psd_ret (pd_if (pt_cmpD (in_or (Room.u65 hr)) in_f (pvd 0 (pv 0)) (pgl G_COLOURS (by rfl)) rfl) (pd_str) (pd_str))))
abbrev t_may_lie : Stmt := top 9
theorem sc_may_lie : FnScope ["one", "two"] ["one", "two"] (defScope t_may_lie) := ⟨rfl, rfl, rfl, by decide +kernel, rfl, by decide +kernel, by decide +kernel⟩
def m_may_lie : SM :=
 sSeq (sIf (tCmp eqF (rd 0) (rd 1)) (sRet (ret (.bl false))) (sNext))
 (sRet (eOr (eBin inD (ret (.str "fur")) (eTup (aCons (eVal (fCall 1 f_kind (aCons (rd 0) (aNil)))) (aCons (eVal (fCall 1 f_kind (aCons (rd 1) (aNil)))) (aNil))))) (eBin neF (eVal (fCall 1 f_kind (aCons (rd 0) (aNil)))) (eVal (fCall 1 f_kind (aCons (rd 1) (aNil)))))))
@[irreducible] def f_may_lie : Fn := fnOf 2 m_may_lie
theorem e_f_may_lie : f_may_lie = fnOf 2 m_may_lie := by unfold f_may_lie; rfl
set_option maxHeartbeats 4000000 in
theorem ok_may_lie {P : Program} {w : World} {K : PySem.W.Frag} {mg : Str → Option Value} {base : Heap} {T : Addr → Prop} {f : Addr} {fd : FuncData} (FU : Fun K "may_lie" "may_lie" t_may_lie f fd) (C_kind : CalG P w K mg base T CX0 1 "kind" 1 f_kind) :
    FnOk P w K mg base CX0 2 f fd ["one", "two"] (spD T ⟨K, w⟩ mg 2 f_may_lie) := by
  rw [e_f_may_lie]
  exact
  fn_ok0 (N := ["one", "two"]) (ps := ["one", "two"]) (st := t_may_lie) (qual := "may_lie") (x := "may_lie") (k := 1) (m := m_may_lie) FU sc_may_lie (by decide) fun cdv A outer s H E H0 G0 n0 α0 hcd0 hr => 
   pssd_cons (psd_if (pt_cmpD (op_eqX (Room.units hr)) eq_f (pvd 0 (pv 0)) (pvd 1 (pv 1)) rfl) (pssd_one (psd_ret (pd_bl))) (pssd_nil))
    (pssd_one (psd_ret (pd_or (pd_cmp (in_or (Room.u65 hr)) in_f (pd_str) (pd_tup (pda_cons (pd_of_f (pc (C_kind.mono (by decide)) hr (by rfl) (pda_cons (pvd 0 (pv 0)) (pda_nil)))) (pda_cons (pd_of_f (pc (C_kind.mono (by decide)) hr (by rfl) (pda_cons (pvd 1 (pv 1)) (pda_nil)))) (pda_nil)))) rfl) (pd_and1 (pd_cmp (op_neX (Room.units hr)) ne_f (pd_of_f (pc (C_kind.mono (by decide)) hr (by rfl) (pda_cons (pvd 0 (pv 0)) (pda_nil)))) (pd_of_f (pc (C_kind.mono (by decide)) hr (by rfl) (pda_cons (pvd 1 (pv 1)) (pda_nil)))) rfl)))))
abbrev t_may_touch : Stmt := top 10
theorem sc_may_touch : FnScope ["one", "two"] ["one", "two"] (defScope t_may_touch) := ⟨rfl, rfl, rfl, by decide +kernel, rfl, by decide +kernel, by decide +kernel⟩
def m_may_touch : SM :=
 sRet (eBin neF (rd 0) (rd 1))
@[irreducible] def f_may_touch : Fn := fnOf 2 m_may_touch
theorem e_f_may_touch : f_may_touch = fnOf 2 m_may_touch := by unfold f_may_touch; rfl
set_option maxHeartbeats 4000000 in
theorem ok_may_touch {P : Program} {w : World} {K : PySem.W.Frag} {mg : Str → Option Value} {base : Heap} {T : Addr → Prop} {f : Addr} {fd : FuncData} (FU : Fun K "may_touch" "may_touch" t_may_touch f fd) :
    FnOk P w K mg base CX0 1 f fd ["one", "two"] (spD T ⟨K, w⟩ mg 2 f_may_touch) := by
  rw [e_f_may_touch]
  exact
  fn_ok0 (N := ["one", "two"]) (ps := ["one", "two"]) (st := t_may_touch) (qual := "may_touch") (x := "may_touch") (k := 0) (m := m_may_touch) FU sc_may_touch (by decide) fun cdv A outer s H E H0 G0 n0 α0 hcd0 hr => 
   pssd_one (psd_ret (pd_cmp (op_neX (Room.units hr)) ne_f (pvd 0 (pv 0)) (pvd 1 (pv 1)) rfl))
abbrev t_all_that_may : Stmt := top 11
theorem sc_all_that_may : FnScope ["on", "one", "other"] ["on"] (defScope t_all_that_may) := ⟨rfl, rfl, rfl, by decide +kernel, rfl, by decide +kernel, by decide +kernel⟩
def m_all_that_may : SM :=
 sRetF (fLc (.sl 1) [1] (iSeq (ret g_TINCTURES)) (tTru (eGen false (.sl 2) [2] (iSeq (rd 0)) (eVal (fCall 2 f_may_lie (aCons (rd 1) (aCons (rd 2) (aNil))))))) (rd 1))
@[irreducible] def f_all_that_may : Fn := fnOf 3 m_all_that_may
theorem e_f_all_that_may : f_all_that_may = fnOf 3 m_all_that_may := by unfold f_all_that_may; rfl
set_option maxHeartbeats 4000000 in
theorem ok_all_that_may {P : Program} {w : World} {K : PySem.W.Frag} {mg : Str → Option Value} {base : Heap} {T : Addr → Prop} {f : Addr} {fd : FuncData} (FU : Fun K "all_that_may" "all_that_may" t_all_that_may f fd) (C_may_lie : CalG P w K mg base T CX0 2 "may_lie" 2 f_may_lie) (B_all : mg "all" = none) (G_TINCTURES : GlobG w K mg "TINCTURES" g_TINCTURES) {c0 P0 : Addr} (TB : GxR.TabB base mg c0 P0) (hT : T P0) (hcode : fd.code = .ref c0) :
    FnOk P w K mg base CX0 4 f fd ["on"] (spD T ⟨K, w⟩ mg 1 f_all_that_may) := by
  rw [e_f_all_that_may]
  exact
  fn_ok0 (N := ["on", "one", "other"]) (ps := ["on"]) (st := t_all_that_may) (qual := "all_that_may") (x := "all_that_may") (k := 3) (m := m_all_that_may) FU sc_all_that_may (by decide) fun cdv A outer s H E H0 G0 n0 α0 hcd0 hr => have hcd := hcd0.symm.trans hcode; 
   pssd_one (psd_retF (pf_lc (LcP.mk (own := [("one", 1)]) rfl sc_all_that_may.nd (pid_seq (pgl G_TINCTURES (by rfl))) (blkOk_by (by show blkC ["on", "one", "other"] (defScope t_all_that_may) _ _ = true; decide +kernel)) rfl (fun _ _ _ _ _ => pgn 1 sc_all_that_may.nd) (fun _ _ _ _ _ _ _ _ _ => pts1 (pt_truthD (pd_all (GenP.mk (own := [("other", 2)]) hr rfl sc_all_that_may.nd TB hT (by exact hcd) (pid_seq (pvd 0 (pv 0))) (blkOk_by (by show blkC ["on", "one", "other"] (relS _ (defScope t_all_that_may)) _ _ = true; decide +kernel)) rfl rfl (by decide +kernel) (by rfl) (by show (".0" : Str) ∉ (["on", "one", "other"] : List Str); decide +kernel) (fun _ _ _ _ _ _ _ => pgn 2 sc_all_that_may.nd) (fun _ _ _ _ _ _ _ hr2hr _ _ _ _ => pd_of_f (pc (C_may_lie.mono (by decide)) hr2hr (by rfl) (pda_cons (pvd 1 (pv 1)) (pda_cons (pvd 2 (pv 2)) (pda_nil))))) (fun _ => rfl)) (by rfl) B_all))) (fun _ _ _ _ _ _ _ _ _ => pvd 1 (pv 1)))))
abbrev t_letter : Stmt := top 12
theorem sc_letter : FnScope ["tincture"] ["tincture"] (defScope t_letter) := ⟨rfl, rfl, rfl, by decide +kernel, rfl, by decide +kernel, by decide +kernel⟩
def m_letter : SM :=
 sRet (eBin ixD (ret g_LETTERS) (rd 0))
@[irreducible] def f_letter : Fn := fnOf 1 m_letter
theorem e_f_letter : f_letter = fnOf 1 m_letter := by unfold f_letter; rfl
set_option maxHeartbeats 4000000 in
theorem ok_letter {P : Program} {w : World} {K : PySem.W.Frag} {mg : Str → Option Value} {base : Heap} {T : Addr → Prop} {f : Addr} {fd : FuncData} (FU : Fun K "letter" "letter" t_letter f fd) (G_LETTERS : GlobG w K mg "LETTERS" g_LETTERS) :
    FnOk P w K mg base CX0 1 f fd ["tincture"] (spD T ⟨K, w⟩ mg 1 f_letter) := by
  rw [e_f_letter]
  exact
  fn_ok0 (N := ["tincture"]) (ps := ["tincture"]) (st := t_letter) (qual := "letter") (x := "letter") (k := 0) (m := m_letter) FU sc_letter (by decide) fun cdv A outer s H E H0 G0 n0 α0 hcd0 hr => 
   pssd_one (psd_ret (pd_ix (hu_of hr) (pgl G_LETTERS (by rfl)) (pvd 0 (pv 0)) (fun _ _ => rfl)))
abbrev t_from_letter : Stmt := top 13
theorem sc_from_letter : FnScope ["sign", "tincture"] ["sign"] (defScope t_from_letter) := ⟨rfl, rfl, rfl, by decide +kernel, rfl, by decide +kernel, by decide +kernel⟩
def m_from_letter : SM :=
 sSeq (sFor (.sl 1) (iSeq (ret g_TINCTURES)) (sIf (tCmp eqF (eBin ixD (ret g_LETTERS) (rd 1)) (rd 0)) (sRet (rd 1)) (sNext)))
 (sRet (ret .non))
@[irreducible] def f_from_letter : Fn := fnOf 2 m_from_letter
theorem e_f_from_letter : f_from_letter = fnOf 2 m_from_letter := by unfold f_from_letter; rfl
set_option maxHeartbeats 4000000 in
theorem ok_from_letter {P : Program} {w : World} {K : PySem.W.Frag} {mg : Str → Option Value} {base : Heap} {T : Addr → Prop} {f : Addr} {fd : FuncData} (FU : Fun K "from_letter" "from_letter" t_from_letter f fd) (G_LETTERS : GlobG w K mg "LETTERS" g_LETTERS) (G_TINCTURES : GlobG w K mg "TINCTURES" g_TINCTURES) :
    FnOk P w K mg base CX0 1 f fd ["sign"] (spD T ⟨K, w⟩ mg 1 f_from_letter) := by
  rw [e_f_from_letter]
  exact
  fn_ok0 (N := ["sign", "tincture"]) (ps := ["sign"]) (st := t_from_letter) (qual := "from_letter") (x := "from_letter") (k := 0) (m := m_from_letter) FU sc_from_letter (by decide) fun cdv A outer s H E H0 G0 n0 α0 hcd0 hr => 
   pssd_cons (psd_for PassesOwn.never rfl (pid_seq (pgl G_TINCTURES (by rfl))) (pgn 1 sc_from_letter.nd) (pssd_one (psd_if (pt_cmpD (op_eqX (Room.units hr)) eq_f (pd_ix (hu_of hr) (pgl G_LETTERS (by rfl)) (pvd 1 (pv 1)) (fun _ _ => rfl)) (pvd 0 (pv 0)) rfl) (pssd_one (psd_ret (pvd 1 (pv 1)))) (pssd_nil))))
    (pssd_one (psd_ret (pd_non)))
abbrev t_hatch : Stmt := top 14
theorem sc_hatch : FnScope ["tincture", "wide", "high", "signs", "place", "row"] ["tincture", "wide", "high"] (defScope t_hatch) := ⟨rfl, rfl, rfl, by decide +kernel, rfl, by decide +kernel, by decide +kernel⟩
def m_hatch : SM :=
 sSeq (sSet 3 (eBin ixD (ret g_HATCHES) (rd 0)))
 (sRetF (fLc (.sl 5) [5] (iRng1 (aCons (rd 2) (aNil))) (ret true) (eMet "str" joinD (ret (.str "")) (aCons (eVal (fLc (.sl 4) [4] (iRng1 (aCons (rd 1) (aNil))) (ret true) (eBin ixD (rd 3) (eBin modD (eBin addD (rd 5) (rd 4)) (ret (.int 2)))))) (aNil)))))
@[irreducible] def f_hatch : Fn := fnOf 6 m_hatch
theorem e_f_hatch : f_hatch = fnOf 6 m_hatch := by unfold f_hatch; rfl
set_option maxHeartbeats 4000000 in
theorem ok_hatch {P : Program} {w : World} {K : PySem.W.Frag} {mg : Str → Option Value} {base : Heap} {T : Addr → Prop} {f : Addr} {fd : FuncData} (FU : Fun K "hatch" "hatch" t_hatch f fd) (B_range : mg "range" = none) (G_HATCHES : GlobG w K mg "HATCHES" g_HATCHES) :
    FnOk P w K mg base CX0 1 f fd ["tincture", "wide", "high"] (spD T ⟨K, w⟩ mg 3 f_hatch) := by
  rw [e_f_hatch]
  exact
  fn_ok0 (N := ["tincture", "wide", "high", "signs", "place", "row"]) (ps := ["tincture", "wide", "high"]) (st := t_hatch) (qual := "hatch") (x := "hatch") (k := 0) (m := m_hatch) FU sc_hatch (by decide) fun cdv A outer s H E H0 G0 n0 α0 hcd0 hr => 
   pssd_cons (psd_set (ps_set sc_hatch.nd rfl (by first | exact Or.inl rfl | exact Or.inr rfl) (pd_ix (hu_of hr) (pgl G_HATCHES (by rfl)) (pvd 0 (pv 0)) (fun _ _ => rfl))))
    (pssd_one (psd_retF (pf_lc (LcP.mk (own := [("row", 5)]) rfl sc_hatch.nd (pid_range1 (by rfl) B_range (pda_cons (pvd 2 (pv 2)) (pda_nil))) (blkOk_by (by show blkC ["tincture", "wide", "high", "signs", "place", "row"] (defScope t_hatch) _ _ = true; decide +kernel)) rfl (fun _ _ _ _ _ => pgn 5 sc_hatch.nd) (fun _ _ _ _ _ _ _ _ _ => pts0) (fun _ _ _ _ _ _ _ _ _ => pd_meth (.inl rfl) PySem.F.plainAttrs_str PySem.F.slot_str_join PySem.F.type_str_join mt_join join_f (pd_str) (pda_cons (pd_of_f (pf_lc (LcP.mk (own := [("place", 4)]) rfl sc_hatch.nd (pid_range1 (by rfl) B_range (pda_cons (pvd 1 (pv 1)) (pda_nil))) (blkOk_by (by show blkC ["tincture", "wide", "high", "signs", "place", "row"] (relS _ (defScope t_hatch)) _ _ = true; decide +kernel)) rfl (fun _ _ _ _ _ => pgn 4 sc_hatch.nd) (fun _ _ _ _ _ _ _ _ _ => pts0) (fun _ _ _ _ _ _ _ _ _ => pd_ix (hu_of hr) (pvd 3 (pv 3)) (pd_mod (pd_add (pvd 5 (pv 5)) (pvd 4 (pv 4))) (pd_int)) (fun _ _ => rfl))))) (pda_nil)))))))
abbrev t_from_hatch : Stmt := top 15
theorem sc_from_hatch : FnScope ["lines", "one"] ["lines"] (defScope t_from_hatch) := ⟨rfl, rfl, rfl, by decide +kernel, rfl, by decide +kernel, by decide +kernel⟩
def m_from_hatch : SM :=
 sSeq (sIf (tNot (tTru (rd 0))) (sRet (eFn listD (aCons (ret g_TINCTURES) (aNil)))) (sNext))
 (sRetF (fLc (.sl 1) [1] (iSeq (ret g_TINCTURES)) (tCmp eqF (eVal (fCall 3 f_hatch (aCons (rd 1) (aCons (eFn lenD (aCons (eBin ixD (rd 0) (ret (.int 0))) (aNil))) (aCons (eFn lenD (aCons (rd 0) (aNil))) (aNil)))))) (eFn listD (aCons (rd 0) (aNil)))) (rd 1)))
@[irreducible] def f_from_hatch : Fn := fnOf 2 m_from_hatch
theorem e_f_from_hatch : f_from_hatch = fnOf 2 m_from_hatch := by unfold f_from_hatch; rfl
set_option maxHeartbeats 4000000 in
theorem ok_from_hatch {P : Program} {w : World} {K : PySem.W.Frag} {mg : Str → Option Value} {base : Heap} {T : Addr → Prop} {f : Addr} {fd : FuncData} (FU : Fun K "from_hatch" "from_hatch" t_from_hatch f fd) (C_hatch : CalG P w K mg base T CX0 1 "hatch" 3 f_hatch) (B_len : mg "len" = none) (B_list : mg "list" = none) (G_TINCTURES : GlobG w K mg "TINCTURES" g_TINCTURES) :
    FnOk P w K mg base CX0 2 f fd ["lines"] (spD T ⟨K, w⟩ mg 1 f_from_hatch) := by
  rw [e_f_from_hatch]
  exact
  fn_ok0 (N := ["lines", "one"]) (ps := ["lines"]) (st := t_from_hatch) (qual := "from_hatch") (x := "from_hatch") (k := 1) (m := m_from_hatch) FU sc_from_hatch (by decide) fun cdv A outer s H E H0 G0 n0 α0 hcd0 hr => 
   pssd_cons (psd_if (pt_notD (pt_truthD (pvd 0 (pv 0)))) (pssd_one (psd_ret (pd_callTy call_list_of list_f (by rfl) B_list rfl (pda_cons (pgl G_TINCTURES (by rfl)) (pda_nil))))) (pssd_nil))
    (pssd_one (psd_retF (pf_lc (LcP.mk (own := [("one", 1)]) rfl sc_from_hatch.nd (pid_seq (pgl G_TINCTURES (by rfl))) (blkOk_by (by show blkC ["lines", "one"] (defScope t_from_hatch) _ _ = true; decide +kernel)) rfl (fun _ _ _ _ _ => pgn 1 sc_from_hatch.nd) (fun _ _ _ _ _ _ _ _ _ => pts1 (pt_cmpD (op_eqX (Room.units hr)) eq_f (pd_of_f (pc (C_hatch.mono (by decide)) hr (by rfl) (pda_cons (pvd 1 (pv 1)) (pda_cons (pd_callB call_len len_f (by rfl) B_len rfl (pda_cons (pd_ix (hu_of hr) (pvd 0 (pv 0)) (pd_int) (fun _ _ => rfl)) (pda_nil))) (pda_cons (pd_callB call_len len_f (by rfl) B_len rfl (pda_cons (pvd 0 (pv 0)) (pda_nil))) (pda_nil)))))) (pd_callTy call_list_of list_f (by rfl) B_list rfl (pda_cons (pvd 0 (pv 0)) (pda_nil))) rfl)) (fun _ _ _ _ _ _ _ _ _ => pvd 1 (pv 1))))))
abbrev t_contrasts : Stmt := top 16
theorem sc_contrasts : FnScope ["tinctures", "found", "number", "one", "two"] ["tinctures"] (defScope t_contrasts) := ⟨rfl, rfl, rfl, by decide +kernel, rfl, by decide +kernel, by decide +kernel⟩
def m_contrasts : SM :=
 sSeq (sSetF 1 (eLstF (aNil)))
 (sSeq (sFor (.unp [(.sl 2), (.unp [(.sl 3), (.sl 4)])]) (iEnZip (aCons (rd 0) (aCons (eSl (rd 0) (oSm (ret (.int 1))) (oNo)) (aNil)))) (sIf (tNot (tTru (eVal (fCall 2 f_may_lie (aCons (rd 3) (aCons (rd 4) (aNil))))))) (appS 1 (eTup (aCons (rd 2) (aCons (eBin addD (rd 2) (ret (.int 1))) (aNil))))) (sNext)))
 (sRet (rd 1)))
@[irreducible] def f_contrasts : Fn := fnOf 5 m_contrasts
theorem e_f_contrasts : f_contrasts = fnOf 5 m_contrasts := by unfold f_contrasts; rfl
set_option maxHeartbeats 4000000 in
theorem ok_contrasts {P : Program} {w : World} {K : PySem.W.Frag} {mg : Str → Option Value} {base : Heap} {T : Addr → Prop} {f : Addr} {fd : FuncData} (FU : Fun K "contrasts" "contrasts" t_contrasts f fd) (C_may_lie : CalG P w K mg base T CX0 2 "may_lie" 2 f_may_lie) (B_enumerate : mg "enumerate" = none) (B_zip : mg "zip" = none) :
    FnOk P w K mg base CX0 3 f fd ["tinctures"] (spD T ⟨K, w⟩ mg 1 f_contrasts) := by
  rw [e_f_contrasts]
  exact
  fn_ok0 (N := ["tinctures", "found", "number", "one", "two"]) (ps := ["tinctures"]) (st := t_contrasts) (qual := "contrasts") (x := "contrasts") (k := 2) (m := m_contrasts) FU sc_contrasts (by decide) fun cdv A outer s H E H0 G0 n0 α0 hcd0 hr => 
   pssd_cons (psd_setF (ps_set sc_contrasts.nd rfl (by first | exact Or.inl rfl | exact Or.inr rfl) (pf_lst (pda_nil))))
    (pssd_cons (psd_for PassesOwn.never rfl (pid_enzip (by rfl) B_enumerate (by rfl) B_zip (pda_cons (pvd 0 (pv 0)) (pda_cons (pd_slice (pvd 0 (pv 0)) (pdo_some (pd_int)) (pdo_none)) (pda_nil)))) (pgt rfl (pgs1 (pgn 2 sc_contrasts.nd) (pgs1 (pgt rfl (pgs1 (pgn 3 sc_contrasts.nd) (pgs1 (pgn 4 sc_contrasts.nd) (pgs0)))) (pgs0)))) (pssd_one (psd_if (pt_notD (pt_truthD (pd_of_f (pc (C_may_lie.mono (by decide)) hr (by rfl) (pda_cons (pvd 3 (pv 3)) (pda_cons (pvd 4 (pv 4)) (pda_nil))))))) (pssd_one (psd_append (pv 1) (pd_tup (pda_cons (pvd 2 (pv 2)) (pda_cons (pd_add (pvd 2 (pv 2)) (pd_int)) (pda_nil)))))) (pssd_nil))))
    (pssd_one (psd_ret (pvd 1 (pv 1)))))
abbrev t_exchanged : Stmt := top 17
theorem sc_exchanged : FnScope ["tincture", "one", "two"] ["tincture", "one", "two"] (defScope t_exchanged) := ⟨rfl, rfl, rfl, by decide +kernel, rfl, by decide +kernel, by decide +kernel⟩
def m_exchanged : SM :=
 sSeq (sIf (tCmp eqF (rd 0) (rd 1)) (sRet (rd 2)) (sNext))
 (sRet (eIf (tCmp eqF (rd 0) (rd 2)) (rd 1) (rd 0)))
@[irreducible] def f_exchanged : Fn := fnOf 3 m_exchanged
theorem e_f_exchanged : f_exchanged = fnOf 3 m_exchanged := by unfold f_exchanged; rfl
set_option maxHeartbeats 4000000 in
theorem ok_exchanged {P : Program} {w : World} {K : PySem.W.Frag} {mg : Str → Option Value} {base : Heap} {T : Addr → Prop} {f : Addr} {fd : FuncData} (FU : Fun K "exchanged" "exchanged" t_exchanged f fd) :
    FnOk P w K mg base CX0 1 f fd ["tincture", "one", "two"] (spD T ⟨K, w⟩ mg 3 f_exchanged) := by
  rw [e_f_exchanged]
  exact
  fn_ok0 (N := ["tincture", "one", "two"]) (ps := ["tincture", "one", "two"]) (st := t_exchanged) (qual := "exchanged") (x := "exchanged") (k := 0) (m := m_exchanged) FU sc_exchanged (by decide) fun cdv A outer s H E H0 G0 n0 α0 hcd0 hr => 
   pssd_cons (psd_if (pt_cmpD (op_eqX (Room.units hr)) eq_f (pvd 0 (pv 0)) (pvd 1 (pv 1)) rfl) (pssd_one (psd_ret (pvd 2 (pv 2)))) (pssd_nil))
    (pssd_one (psd_ret (pd_if (pt_cmpD (op_eqX (Room.units hr)) eq_f (pvd 0 (pv 0)) (pvd 2 (pv 2)) rfl) (pvd 1 (pv 1)) (pvd 0 (pv 0)))))
abbrev t_pairs_that_may : Stmt := top 18
theorem sc_pairs_that_may : FnScope ["found", "one", "two"] [] (defScope t_pairs_that_may) := ⟨rfl, rfl, rfl, by decide +kernel, rfl, by decide +kernel, by decide +kernel⟩
def m_pairs_that_may : SM :=
 sSeq (sSetF 0 (eLstF (aNil)))
 (sSeq (sFor (.sl 1) (iSeq (ret g_TINCTURES)) (augS 0 (eVal (fLc (.sl 2) [2] (iSeq (ret g_TINCTURES)) (tTru (eVal (fCall 2 f_may_lie (aCons (rd 1) (aCons (rd 2) (aNil)))))) (eTup (aCons (rd 1) (aCons (rd 2) (aNil))))))))
 (sRet (rd 0)))
@[irreducible] def f_pairs_that_may : Fn := fnOf 3 m_pairs_that_may
theorem e_f_pairs_that_may : f_pairs_that_may = fnOf 3 m_pairs_that_may := by unfold f_pairs_that_may; rfl
set_option maxHeartbeats 4000000 in
theorem ok_pairs_that_may {P : Program} {w : World} {K : PySem.W.Frag} {mg : Str → Option Value} {base : Heap} {T : Addr → Prop} {f : Addr} {fd : FuncData} (FU : Fun K "pairs_that_may" "pairs_that_may" t_pairs_that_may f fd) (C_may_lie : CalG P w K mg base T CX0 2 "may_lie" 2 f_may_lie) (G_TINCTURES : GlobG w K mg "TINCTURES" g_TINCTURES) :
    FnOk P w K mg base CX0 3 f fd [] (spD T ⟨K, w⟩ mg 0 f_pairs_that_may) := by
  rw [e_f_pairs_that_may]
  exact
  fn_ok0 (N := ["found", "one", "two"]) (ps := []) (st := t_pairs_that_may) (qual := "pairs_that_may") (x := "pairs_that_may") (k := 2) (m := m_pairs_that_may) FU sc_pairs_that_may (by decide) fun cdv A outer s H E H0 G0 n0 α0 hcd0 hr => 
   pssd_cons (psd_setF (ps_set sc_pairs_that_may.nd rfl (by first | exact Or.inl rfl | exact Or.inr rfl) (pf_lst (pda_nil))))
    (pssd_cons (psd_for PassesOwn.never rfl (pid_seq (pgl G_TINCTURES (by rfl))) (pgn 1 sc_pairs_that_may.nd) (pssd_one (psd_aug sc_pairs_that_may.nd rfl (by first | exact Or.inl rfl | exact Or.inr rfl) (pd_of_f (pf_lc (LcP.mk (own := [("two", 2)]) rfl sc_pairs_that_may.nd (pid_seq (pgl G_TINCTURES (by rfl))) (blkOk_by (by show blkC ["found", "one", "two"] (defScope t_pairs_that_may) _ _ = true; decide +kernel)) rfl (fun _ _ _ _ _ => pgn 2 sc_pairs_that_may.nd) (fun _ _ _ _ _ _ _ _ _ => pts1 (pt_truthD (pd_of_f (pc (C_may_lie.mono (by decide)) hr (by rfl) (pda_cons (pvd 1 (pv 1)) (pda_cons (pvd 2 (pv 2)) (pda_nil))))))) (fun _ _ _ _ _ _ _ _ _ => pd_tup (pda_cons (pvd 1 (pv 1)) (pda_cons (pvd 2 (pv 2)) (pda_nil))))))) (.inl rfl))))
    (pssd_one (psd_ret (pvd 0 (pv 0)))))
abbrev t_count_pairs : Stmt := top 19
theorem sc_count_pairs : FnScope [] [] (defScope t_count_pairs) := ⟨rfl, rfl, rfl, by decide +kernel, rfl, by decide +kernel, by decide +kernel⟩
def m_count_pairs : SM :=
 sRet (eFn lenD (aCons (eVal (callM0 f_pairs_that_may)) (aNil)))
@[irreducible] def f_count_pairs : Fn := fnOf 0 m_count_pairs
theorem e_f_count_pairs : f_count_pairs = fnOf 0 m_count_pairs := by unfold f_count_pairs; rfl
set_option maxHeartbeats 4000000 in
theorem ok_count_pairs {P : Program} {w : World} {K : PySem.W.Frag} {mg : Str → Option Value} {base : Heap} {T : Addr → Prop} {f : Addr} {fd : FuncData} (FU : Fun K "count_pairs" "count_pairs" t_count_pairs f fd) (C_pairs_that_may : CalG P w K mg base T CX0 3 "pairs_that_may" 0 f_pairs_that_may) (B_len : mg "len" = none) :
    FnOk P w K mg base CX0 4 f fd [] (spD T ⟨K, w⟩ mg 0 f_count_pairs) := by
  rw [e_f_count_pairs]
  exact
  fn_ok0 (N := []) (ps := []) (st := t_count_pairs) (qual := "count_pairs") (x := "count_pairs") (k := 3) (m := m_count_pairs) FU sc_count_pairs (by decide) fun cdv A outer s H E H0 G0 n0 α0 hcd0 hr => 
   pssd_one (psd_ret (pd_callB call_len len_f (by rfl) B_len rfl (pda_cons (pd_of_f (pc0 (C_pairs_that_may.mono (by decide)) hr (by rfl))) (pda_nil))))
abbrev t_longest_rows : Stmt := top 20
theorem sc_longest_rows : FnScope ["some", "most", "level", "found", "_", "further", "row", "one"] ["some", "most"] (defScope t_longest_rows) := ⟨rfl, rfl, rfl, by decide +kernel, rfl, by decide +kernel, by decide +kernel⟩
def m_longest_rows : SM :=
 sSeq (sSet 2 (eVal (fLc (.sl 7) [7] (iSeq (rd 0)) (ret true) (eTup (aCons (rd 7) (aNil))))))
 (sSeq (sSet 3 (rd 2))
 (sSeq (sFor (.sl 4) (iRng1 (aCons (eBin subD (rd 1) (ret (.int 1))) (aNil))) (sSeq (sSetF 5 (eLstF (aNil)))
 (sSeq (sFor (.sl 6) (iSeq (rd 2)) (augS 5 (eVal (fLc (.sl 7) [7] (iSeq (rd 0)) (tAnd (tCmp notInD (rd 7) (rd 6)) (tTru (eVal (fCall 2 f_may_lie (aCons (rd 7) (aCons (eBin ixD (rd 6) (eOp1 negD (ret (.int 1)))) (aNil))))))) (eBin addD (rd 6) (eTup (aCons (rd 7) (aNil))))))))
 (sSeq (sIf (tNot (tTru (rd 5))) (sRet (rd 3)) (sNext))
 (sFrz 5 (sAsg2 (.sl 3) (.sl 2) (rd 5)))))))
 (sRet (rd 3))))
@[irreducible] def f_longest_rows : Fn := fnOf 8 m_longest_rows
theorem e_f_longest_rows : f_longest_rows = fnOf 8 m_longest_rows := by unfold f_longest_rows; rfl
set_option maxHeartbeats 4000000 in
theorem ok_longest_rows {P : Program} {w : World} {K : PySem.W.Frag} {mg : Str → Option Value} {base : Heap} {T : Addr → Prop} {f : Addr} {fd : FuncData} (FU : Fun K "longest_rows" "longest_rows" t_longest_rows f fd) (C_may_lie : CalG P w K mg base T CX0 2 "may_lie" 2 f_may_lie) (B_range : mg "range" = none) :
    FnOk P w K mg base CX0 3 f fd ["some", "most"] (spD T ⟨K, w⟩ mg 2 f_longest_rows) := by
  rw [e_f_longest_rows]
  exact
  fn_ok0 (N := ["some", "most", "level", "found", "_", "further", "row", "one"]) (ps := ["some", "most"]) (st := t_longest_rows) (qual := "longest_rows") (x := "longest_rows") (k := 2) (m := m_longest_rows) FU sc_longest_rows (by decide) fun cdv A outer s H E H0 G0 n0 α0 hcd0 hr => 
   pssd_cons (psd_set (ps_lc (LcP.mk (own := [("one", 7)]) rfl sc_longest_rows.nd (pid_seq (pvd 0 (pv 0))) (blkOk_by (by show blkC ["some", "most", "level", "found", "_", "further", "row", "one"] (defScope t_longest_rows) _ _ = true; decide +kernel)) rfl (fun _ _ _ _ _ => pgn 7 sc_longest_rows.nd) (fun _ _ _ _ _ _ _ _ _ => pts0) (fun _ _ _ _ _ _ _ _ _ => pd_tup (pda_cons (pvd 7 (pv 7)) (pda_nil)))) rfl rfl (by rfl)))
    (pssd_cons (psd_set (ps_set sc_longest_rows.nd rfl (by first | exact Or.inl rfl | exact Or.inr rfl) (pvd 2 (pv 2))))
    (pssd_cons (psd_for PassesOwn.never rfl (pid_range1 (by rfl) B_range (pda_cons (pd_sub (pvd 1 (pv 1)) (pd_int)) (pda_nil))) (pgn 4 sc_longest_rows.nd) (pssd_cons (psd_setF (ps_set sc_longest_rows.nd rfl (by first | exact Or.inl rfl | exact Or.inr rfl) (pf_lst (pda_nil))))
    (pssd_cons (psd_for PassesOwn.never rfl (pid_seq (pvd 2 (pv 2))) (pgn 6 sc_longest_rows.nd) (pssd_one (psd_aug sc_longest_rows.nd rfl (by first | exact Or.inl rfl | exact Or.inr rfl) (pd_of_f (pf_lc (LcP.mk (own := [("one", 7)]) rfl sc_longest_rows.nd (pid_seq (pvd 0 (pv 0))) (blkOk_by (by show blkC ["some", "most", "level", "found", "_", "further", "row", "one"] (defScope t_longest_rows) _ _ = true; decide +kernel)) rfl (fun _ _ _ _ _ => pgn 7 sc_longest_rows.nd) (fun _ _ _ _ _ _ _ _ _ => pts1 (pt_w (pw_andD (pt_cmpD (notIn_or (Room.u65 hr)) notIn_f (pvd 7 (pv 7)) (pvd 6 (pv 6)) rfl) (pw_and1D (pt_truthD (pd_of_f (pc (C_may_lie.mono (by decide)) hr (by rfl) (pda_cons (pvd 7 (pv 7)) (pda_cons (pd_ix (hu_of hr) (pvd 6 (pv 6)) (pd_neg (pd_int)) (fun _ _ => rfl)) (pda_nil)))))))))) (fun _ _ _ _ _ _ _ _ _ => pd_add (pvd 6 (pv 6)) (pd_tup (pda_cons (pvd 7 (pv 7)) (pda_nil))))))) (.inl rfl))))
    (pssd_cons (psd_if (pt_notD (pt_truthD (pvd 5 (pv 5)))) (pssd_one (psd_ret (pvd 3 (pv 3)))) (pssd_nil))
    (pssd_frz (i := 5) (pssd_one (psd_asg2 (pvd 5 (pv 5)) (pgn 3 sc_longest_rows.nd) (pgn 2 sc_longest_rows.nd))))))))
    (pssd_one (psd_ret (pvd 3 (pv 3))))))
abbrev t__law_draws : Stmt := top 22
theorem sc__law_draws : FnScope ["cell", "modulus", "count", "number", "row", "k", "mixed"] ["cell", "modulus", "count"] (defScope t__law_draws) := ⟨rfl, rfl, rfl, by decide +kernel, rfl, by decide +kernel, by decide +kernel⟩
def m__law_draws : SM :=
 sSeq (sSet 3 (rd 0))
 (sSeq (sIf (tCmp ltD (rd 3) (ret (.int 0))) (sSet 3 (eBin subD (eBin subD (ret (.int 0)) (ret (.int 1))) (rd 3))) (sNext))
 (sSeq (sSetF 4 (eLstF (aNil)))
 (sSeq (sIf (tCmp geD (rd 3) (eBin powD (ret (.int 10)) (ret (.int 18)))) (sSeq (sFor (.sl 5) (iRng1 (aCons (rd 2) (aNil))) (sSeq (appS 4 (eBin modD (eFn intD (aCons (rd 3) (aNil))) (rd 1)))
 (sSet 3 (eBin fdivD (rd 3) (rd 1)))))
 (sRet (rd 4))) (sNext))
 (sSeq (sFor (.sl 5) (iRng1 (aCons (rd 2) (aNil))) (sSeq (sSet 6 (eBin modD (eFn intD (aCons (eBin mulD (eBin addD (eBin addD (rd 3) (eBin mulD (ret (.int 7)) (rd 5))) (ret (.int 1))) (ret (.int 48271))) (aNil))) (ret (.int 2147483647))))
 (sSeq (sSet 6 (eBin modD (eFn intD (aCons (eBin addD (eBin mulD (rd 6) (ret (.int 69621))) (eBin mulD (ret (.int 31)) (rd 5))) (aNil))) (ret (.int 2147483629))))
 (appS 4 (eBin modD (eFn intD (aCons (eBin fdivD (rd 6) (ret (.int 7))) (aNil))) (rd 1))))))
 (sRet (rd 4))))))
@[irreducible] def f__law_draws : Fn := fnOf 7 m__law_draws
theorem e_f__law_draws : f__law_draws = fnOf 7 m__law_draws := by unfold f__law_draws; rfl
set_option maxHeartbeats 4000000 in
theorem ok__law_draws {P : Program} {w : World} {K : PySem.W.Frag} {mg : Str → Option Value} {base : Heap} {T : Addr → Prop} {f : Addr} {fd : FuncData} (FU : Fun K "_law_draws" "_law_draws" t__law_draws f fd) (B_int : mg "int" = none) (B_range : mg "range" = none) :
    FnOk P w K mg base CX0 1 f fd ["cell", "modulus", "count"] (spD T ⟨K, w⟩ mg 3 f__law_draws) := by
  rw [e_f__law_draws]
  exact
  fn_ok0 (N := ["cell", "modulus", "count", "number", "row", "k", "mixed"]) (ps := ["cell", "modulus", "count"]) (st := t__law_draws) (qual := "_law_draws") (x := "_law_draws") (k := 0) (m := m__law_draws) FU sc__law_draws (by decide) fun cdv A outer s H E H0 G0 n0 α0 hcd0 hr => 
   pssd_cons (psd_set (ps_set sc__law_draws.nd rfl (by first | exact Or.inl rfl | exact Or.inr rfl) (pvd 0 (pv 0))))
    (pssd_cons (psd_if (pt_cmpD lt_or lt_f (pvd 3 (pv 3)) (pd_int) rfl) (pssd_one (psd_set (ps_set sc__law_draws.nd rfl (by first | exact Or.inl rfl | exact Or.inr rfl) (pd_sub (pd_sub (pd_int) (pd_int)) (pvd 3 (pv 3)))))) (pssd_nil))
    (pssd_cons (psd_setF (ps_set sc__law_draws.nd rfl (by first | exact Or.inl rfl | exact Or.inr rfl) (pf_lst (pda_nil))))
    (pssd_cons (psd_if (pt_cmpD op_ge ge_f (pvd 3 (pv 3)) (pd_pow (pd_int) (pd_int)) rfl) (pssd_cons (psd_for PassesOwn.never rfl (pid_range1 (by rfl) B_range (pda_cons (pvd 2 (pv 2)) (pda_nil))) (pgn 5 sc__law_draws.nd) (pssd_cons (psd_append (pv 4) (pd_mod (pd_callTy call_int1 int_f (by rfl) B_int rfl (pda_cons (pvd 3 (pv 3)) (pda_nil))) (pvd 1 (pv 1))))
    (pssd_one (psd_set (ps_set sc__law_draws.nd rfl (by first | exact Or.inl rfl | exact Or.inr rfl) (pd_fdiv (pvd 3 (pv 3)) (pvd 1 (pv 1))))))))
    (pssd_one (psd_ret (pvd 4 (pv 4))))) (pssd_nil))
    (pssd_cons (psd_for PassesOwn.never rfl (pid_range1 (by rfl) B_range (pda_cons (pvd 2 (pv 2)) (pda_nil))) (pgn 5 sc__law_draws.nd) (pssd_cons (psd_set (ps_set sc__law_draws.nd rfl (by first | exact Or.inl rfl | exact Or.inr rfl) (pd_mod (pd_callTy call_int1 int_f (by rfl) B_int rfl (pda_cons (pd_mul (pd_add (pd_add (pvd 3 (pv 3)) (pd_mul (pd_int) (pvd 5 (pv 5)))) (pd_int)) (pd_int)) (pda_nil))) (pd_int))))
    (pssd_cons (psd_set (ps_set sc__law_draws.nd rfl (by first | exact Or.inl rfl | exact Or.inr rfl) (pd_mod (pd_callTy call_int1 int_f (by rfl) B_int rfl (pda_cons (pd_add (pd_mul (pvd 6 (pv 6)) (pd_int)) (pd_mul (pd_int) (pvd 5 (pv 5)))) (pda_nil))) (pd_int))))
    (pssd_one (psd_append (pv 4) (pd_mod (pd_callTy call_int1 int_f (by rfl) B_int rfl (pda_cons (pd_fdiv (pvd 6 (pv 6)) (pd_int)) (pda_nil))) (pvd 1 (pv 1))))))))
    (pssd_one (psd_ret (pvd 4 (pv 4))))))))
abbrev t__law_box : Stmt := top 23
theorem sc__law_box : FnScope ["script", "row", "cell"] ["script"] (defScope t__law_box) := ⟨rfl, rfl, rfl, by decide +kernel, rfl, by decide +kernel, by decide +kernel⟩
def m__law_box : SM :=
 sSeq (sSet 1 (eLst (aNil)))
 (sSeq (sFor (.sl 2) (iSeq (rd 0)) (sSet 1 (eBin addD (rd 1) (eVal (fCall 3 f__law_draws (aCons (rd 2) (aCons (ret (.int 1000003)) (aCons (ret (.int 6)) (aNil)))))))))
 (sSeq (sIf (tCmp eqF (eFn lenD (aCons (rd 1) (aNil))) (ret (.int 0))) (sSet 1 (eLst (aCons (ret (.int 11)) (aCons (ret (.int 5)) (aCons (ret (.int 2)) (aCons (ret (.int 7)) (aCons (ret (.int 31)) (aCons (ret (.int 101)) (aCons (ret (.int 997)) (aNil)))))))))) (sNext))
 (sRetF (dispS [(ret (.str "row"), rd 1), (ret (.str "at"), ret (.int 0))]))))
@[irreducible] def f__law_box : Fn := fnOf 3 m__law_box
theorem e_f__law_box : f__law_box = fnOf 3 m__law_box := by unfold f__law_box; rfl
set_option maxHeartbeats 4000000 in
theorem ok__law_box {P : Program} {w : World} {K : PySem.W.Frag} {mg : Str → Option Value} {base : Heap} {T : Addr → Prop} {f : Addr} {fd : FuncData} (FU : Fun K "_law_box" "_law_box" t__law_box f fd) (C__law_draws : CalG P w K mg base T CX0 1 "_law_draws" 3 f__law_draws) (B_len : mg "len" = none) :
    FnOk P w K mg base CX0 2 f fd ["script"] (spD T ⟨K, w⟩ mg 1 f__law_box) := by
  rw [e_f__law_box]
  exact
  fn_ok0 (N := ["script", "row", "cell"]) (ps := ["script"]) (st := t__law_box) (qual := "_law_box") (x := "_law_box") (k := 1) (m := m__law_box) FU sc__law_box (by decide) fun cdv A outer s H E H0 G0 n0 α0 hcd0 hr => 
   pssd_cons (psd_set (ps_set sc__law_box.nd rfl (by first | exact Or.inl rfl | exact Or.inr rfl) (pd_lst (pda_nil))))
    (pssd_cons (psd_for PassesOwn.never rfl (pid_seq (pvd 0 (pv 0))) (pgn 2 sc__law_box.nd) (pssd_one (psd_set (ps_set sc__law_box.nd rfl (by first | exact Or.inl rfl | exact Or.inr rfl) (pd_add (pvd 1 (pv 1)) (pd_of_f (pc (C__law_draws.mono (by decide)) hr (by rfl) (pda_cons (pvd 2 (pv 2)) (pda_cons (pd_int) (pda_cons (pd_int) (pda_nil)))))))))))
    (pssd_cons (psd_if (pt_cmpD (op_eqX (Room.units hr)) eq_f (pd_callB call_len len_f (by rfl) B_len rfl (pda_cons (pvd 1 (pv 1)) (pda_nil))) (pd_int) rfl) (pssd_one (psd_set (ps_set sc__law_box.nd rfl (by first | exact Or.inl rfl | exact Or.inr rfl) (pd_lst (pda_cons (pd_int) (pda_cons (pd_int) (pda_cons (pd_int) (pda_cons (pd_int) (pda_cons (pd_int) (pda_cons (pd_int) (pda_cons (pd_int) (pda_nil)))))))))))) (pssd_nil))
    (pssd_one (psd_retF (pf_disp (ppsd_cons (fun _ _ _ _ => pd_str) (fun _ _ _ _ => pvd 1 (pv 1)) (ppsd_cons (fun _ _ _ _ => pd_str) (fun _ _ _ _ => pd_int) (ppsd_nil))) rfl rfl (by decide) (by decide))))))
abbrev t__law_next : Stmt := top 24
theorem sc__law_next : FnScope ["box", "modulus", "at", "number"] ["box", "modulus"] (defScope t__law_next) := ⟨rfl, rfl, rfl, by decide +kernel, rfl, by decide +kernel, by decide +kernel⟩
def m__law_next : SM :=
 sSeq (sSet 2 (eBin ixD (rd 0) (ret (.str "at"))))
 (sSeq (sPut (rd 0) (ret (.str "at")) (eBin addD (rd 2) (ret (.int 1))))
 (sSeq (sSet 3 (eBin ixD (eBin ixD (rd 0) (ret (.str "row"))) (eBin modD (rd 2) (eFn lenD (aCons (eBin ixD (rd 0) (ret (.str "row"))) (aNil))))))
 (sRet (eBin modD (eFn intD (aCons (eBin addD (rd 3) (eBin mulD (ret (.int 7919)) (eBin fdivD (rd 2) (eFn lenD (aCons (eBin ixD (rd 0) (ret (.str "row"))) (aNil)))))) (aNil))) (rd 1)))))
@[irreducible] def f__law_next : Fn := fnOf 4 m__law_next
theorem e_f__law_next : f__law_next = fnOf 4 m__law_next := by unfold f__law_next; rfl
set_option maxHeartbeats 4000000 in
theorem ok__law_next {P : Program} {w : World} {K : PySem.W.Frag} {mg : Str → Option Value} {base : Heap} {T : Addr → Prop} {f : Addr} {fd : FuncData} (FU : Fun K "_law_next" "_law_next" t__law_next f fd) (B_int : mg "int" = none) (B_len : mg "len" = none) :
    FnOk P w K mg base CX0 1 f fd ["box", "modulus"] (spD T ⟨K, w⟩ mg 2 f__law_next) := by
  rw [e_f__law_next]
  exact
  fn_ok0 (N := ["box", "modulus", "at", "number"]) (ps := ["box", "modulus"]) (st := t__law_next) (qual := "_law_next") (x := "_law_next") (k := 0) (m := m__law_next) FU sc__law_next (by decide) fun cdv A outer s H E H0 G0 n0 α0 hcd0 hr => 
   pssd_cons (psd_set (ps_set sc__law_next.nd rfl (by first | exact Or.inl rfl | exact Or.inr rfl) (pd_ix (hu_of hr) (pvd 0 (pv 0)) (pd_str) (fun _ _ => rfl))))
    (pssd_cons (psd_dput (hu_of hr) (pvd 0 (pv 0)) (pd_str) (pd_add (pvd 2 (pv 2)) (pd_int)) (by rfl))
    (pssd_cons (psd_set (ps_set sc__law_next.nd rfl (by first | exact Or.inl rfl | exact Or.inr rfl) (pd_ix (hu_of hr) (pd_ix (hu_of hr) (pvd 0 (pv 0)) (pd_str) (fun _ _ => rfl)) (pd_mod (pvd 2 (pv 2)) (pd_callB call_len len_f (by rfl) B_len rfl (pda_cons (pd_ix (hu_of hr) (pvd 0 (pv 0)) (pd_str) (fun _ _ => rfl)) (pda_nil)))) (fun _ _ => rfl))))
    (pssd_one (psd_ret (pd_mod (pd_callTy call_int1 int_f (by rfl) B_int rfl (pda_cons (pd_add (pvd 3 (pv 3)) (pd_mul (pd_int) (pd_fdiv (pvd 2 (pv 2)) (pd_callB call_len len_f (by rfl) B_len rfl (pda_cons (pd_ix (hu_of hr) (pvd 0 (pv 0)) (pd_str) (fun _ _ => rfl)) (pda_nil)))))) (pda_nil))) (pvd 1 (pv 1)))))))
abbrev t__law_tinctures : Stmt := top 25
theorem sc__law_tinctures : FnScope [] [] (defScope t__law_tinctures) := ⟨rfl, rfl, rfl, by decide +kernel, rfl, by decide +kernel, by decide +kernel⟩
def m__law_tinctures : SM :=
 sRetF (eLstF (aCons (ret (.str "or")) (aCons (ret (.str "argent")) (aCons (ret (.str "gules")) (aCons (ret (.str "azure")) (aCons (ret (.str "sable")) (aCons (ret (.str "vert")) (aCons (ret (.str "purpure")) (aCons (ret (.str "ermine")) (aCons (ret (.str "vair")) (aNil)))))))))))
@[irreducible] def f__law_tinctures : Fn := fnOf 0 m__law_tinctures
theorem e_f__law_tinctures : f__law_tinctures = fnOf 0 m__law_tinctures := by unfold f__law_tinctures; rfl
set_option maxHeartbeats 4000000 in
theorem ok__law_tinctures {P : Program} {w : World} {K : PySem.W.Frag} {mg : Str → Option Value} {base : Heap} {T : Addr → Prop} {f : Addr} {fd : FuncData} (FU : Fun K "_law_tinctures" "_law_tinctures" t__law_tinctures f fd) :
    FnOk P w K mg base CX0 1 f fd [] (spD T ⟨K, w⟩ mg 0 f__law_tinctures) := by
  rw [e_f__law_tinctures]
  exact
  fn_ok0 (N := []) (ps := []) (st := t__law_tinctures) (qual := "_law_tinctures") (x := "_law_tinctures") (k := 0) (m := m__law_tinctures) FU sc__law_tinctures (by decide) fun cdv A outer s H E H0 G0 n0 α0 hcd0 hr => 
   pssd_one (psd_retF (pf_lst (pda_cons (pd_str) (pda_cons (pd_str) (pda_cons (pd_str) (pda_cons (pd_str) (pda_cons (pd_str) (pda_cons (pd_str) (pda_cons (pd_str) (pda_cons (pd_str) (pda_cons (pd_str) (pda_nil))))))))))))
abbrev t__law_kind : Stmt := top 26
theorem sc__law_kind : FnScope ["one"] ["one"] (defScope t__law_kind) := ⟨rfl, rfl, rfl, by decide +kernel, rfl, by decide +kernel, by decide +kernel⟩
def m__law_kind : SM :=
 sRet (eIf (tCmp inD (rd 0) (eTup (aCons (ret (.str "or")) (aCons (ret (.str "argent")) (aNil))))) (ret (.str "metal")) (eIf (tCmp inD (rd 0) (eTup (aCons (ret (.str "ermine")) (aCons (ret (.str "vair")) (aNil))))) (ret (.str "fur")) (ret (.str "colour"))))
@[irreducible] def f__law_kind : Fn := fnOf 1 m__law_kind
theorem e_f__law_kind : f__law_kind = fnOf 1 m__law_kind := by unfold f__law_kind; rfl
set_option maxHeartbeats 4000000 in
theorem ok__law_kind {P : Program} {w : World} {K : PySem.W.Frag} {mg : Str → Option Value} {base : Heap} {T : Addr → Prop} {f : Addr} {fd : FuncData} (FU : Fun K "_law_kind" "_law_kind" t__law_kind f fd) :
    FnOk P w K mg base CX0 1 f fd ["one"] (spD T ⟨K, w⟩ mg 1 f__law_kind) := by
  rw [e_f__law_kind]
  exact
  fn_ok0 (N := ["one"]) (ps := ["one"]) (st := t__law_kind) (qual := "_law_kind") (x := "_law_kind") (k := 0) (m := m__law_kind) FU sc__law_kind (by decide) fun cdv A outer s H E H0 G0 n0 α0 hcd0 hr => 
   pssd_one (psd_ret (pd_if (pt_cmpD (in_or (Room.u65 hr)) in_f (pvd 0 (pv 0)) (pd_tup (pda_cons (pd_str) (pda_cons (pd_str) (pda_nil)))) rfl) (pd_str) (pd_if (pt_cmpD (in_or (Room.u65 hr)) in_f (pvd 0 (pv 0)) (pd_tup (pda_cons (pd_str) (pda_cons (pd_str) (pda_nil)))) rfl) (pd_str) (pd_str))))
abbrev t__law_lie : Stmt := top 27
theorem sc__law_lie : FnScope ["one", "two"] ["one", "two"] (defScope t__law_lie) := ⟨rfl, rfl, rfl, by decide +kernel, rfl, by decide +kernel, by decide +kernel⟩
def m__law_lie : SM :=
 sRet (eAnd (eBin neF (rd 0) (rd 1)) (eOr (eBin neF (eVal (fCall 1 f__law_kind (aCons (rd 0) (aNil)))) (eVal (fCall 1 f__law_kind (aCons (rd 1) (aNil))))) (eBin eqF (eVal (fCall 1 f__law_kind (aCons (rd 0) (aNil)))) (ret (.str "fur")))))
@[irreducible] def f__law_lie : Fn := fnOf 2 m__law_lie
theorem e_f__law_lie : f__law_lie = fnOf 2 m__law_lie := by unfold f__law_lie; rfl
set_option maxHeartbeats 4000000 in
theorem ok__law_lie {P : Program} {w : World} {K : PySem.W.Frag} {mg : Str → Option Value} {base : Heap} {T : Addr → Prop} {f : Addr} {fd : FuncData} (FU : Fun K "_law_lie" "_law_lie" t__law_lie f fd) (C__law_kind : CalG P w K mg base T CX0 1 "_law_kind" 1 f__law_kind) :
    FnOk P w K mg base CX0 2 f fd ["one", "two"] (spD T ⟨K, w⟩ mg 2 f__law_lie) := by
  rw [e_f__law_lie]
  exact
  fn_ok0 (N := ["one", "two"]) (ps := ["one", "two"]) (st := t__law_lie) (qual := "_law_lie") (x := "_law_lie") (k := 1) (m := m__law_lie) FU sc__law_lie (by decide) fun cdv A outer s H E H0 G0 n0 α0 hcd0 hr => 
   pssd_one (psd_ret (pd_and (pd_cmp (op_neX (Room.units hr)) ne_f (pvd 0 (pv 0)) (pvd 1 (pv 1)) rfl) (pd_and1 (pd_or (pd_cmp (op_neX (Room.units hr)) ne_f (pd_of_f (pc (C__law_kind.mono (by decide)) hr (by rfl) (pda_cons (pvd 0 (pv 0)) (pda_nil)))) (pd_of_f (pc (C__law_kind.mono (by decide)) hr (by rfl) (pda_cons (pvd 1 (pv 1)) (pda_nil)))) rfl) (pd_and1 (pd_cmp (op_eqX (Room.units hr)) eq_f (pd_of_f (pc (C__law_kind.mono (by decide)) hr (by rfl) (pda_cons (pvd 0 (pv 0)) (pda_nil)))) (pd_str) rfl))))))
abbrev t__law_one : Stmt := top 28
theorem sc__law_one : FnScope ["box", "values"] ["box", "values"] (defScope t__law_one) := ⟨rfl, rfl, rfl, by decide +kernel, rfl, by decide +kernel, by decide +kernel⟩
def m__law_one : SM :=
 sRet (eBin ixD (rd 1) (eVal (fCall 2 f__law_next (aCons (rd 0) (aCons (eFn lenD (aCons (rd 1) (aNil))) (aNil))))))
@[irreducible] def f__law_one : Fn := fnOf 2 m__law_one
theorem e_f__law_one : f__law_one = fnOf 2 m__law_one := by unfold f__law_one; rfl
set_option maxHeartbeats 4000000 in
theorem ok__law_one {P : Program} {w : World} {K : PySem.W.Frag} {mg : Str → Option Value} {base : Heap} {T : Addr → Prop} {f : Addr} {fd : FuncData} (FU : Fun K "_law_one" "_law_one" t__law_one f fd) (C__law_next : CalG P w K mg base T CX0 1 "_law_next" 2 f__law_next) (B_len : mg "len" = none) :
    FnOk P w K mg base CX0 2 f fd ["box", "values"] (spD T ⟨K, w⟩ mg 2 f__law_one) := by
  rw [e_f__law_one]
  exact
  fn_ok0 (N := ["box", "values"]) (ps := ["box", "values"]) (st := t__law_one) (qual := "_law_one") (x := "_law_one") (k := 1) (m := m__law_one) FU sc__law_one (by decide) fun cdv A outer s H E H0 G0 n0 α0 hcd0 hr => 
   pssd_one (psd_ret (pd_ix (hu_of hr) (pvd 1 (pv 1)) (pd_of_f (pc (C__law_next.mono (by decide)) hr (by rfl) (pda_cons (pvd 0 (pv 0)) (pda_cons (pd_callB call_len len_f (by rfl) B_len rfl (pda_cons (pvd 1 (pv 1)) (pda_nil))) (pda_nil))))) (fun _ _ => rfl)))
abbrev t__law_signs : Stmt := top 29
theorem sc__law_signs : FnScope [] [] (defScope t__law_signs) := ⟨rfl, rfl, rfl, by decide +kernel, rfl, by decide +kernel, by decide +kernel⟩
def m__law_signs : SM :=
 sRet (eFn dictD (aCons (eLst (aCons (eTup (aCons (ret (.str "or")) (aCons (ret (.str ". ")) (aNil)))) (aCons (eTup (aCons (ret (.str "argent")) (aCons (ret (.str "  ")) (aNil)))) (aCons (eTup (aCons (ret (.str "gules")) (aCons (ret (.str "||")) (aNil)))) (aCons (eTup (aCons (ret (.str "azure")) (aCons (ret (.str "--")) (aNil)))) (aCons (eTup (aCons (ret (.str "sable")) (aCons (ret (.str "##")) (aNil)))) (aCons (eTup (aCons (ret (.str "vert")) (aCons (eBin addD (ret (.str "\\")) (ret (.str " "))) (aNil)))) (aCons (eTup (aCons (ret (.str "purpure")) (aCons (ret (.str "/ ")) (aNil)))) (aCons (eTup (aCons (ret (.str "ermine")) (aCons (ret (.str "^ ")) (aNil)))) (aCons (eTup (aCons (ret (.str "vair")) (aCons (ret (.str "v^")) (aNil)))) (aNil))))))))))) (aNil)))
@[irreducible] def f__law_signs : Fn := fnOf 0 m__law_signs
theorem e_f__law_signs : f__law_signs = fnOf 0 m__law_signs := by unfold f__law_signs; rfl
set_option maxHeartbeats 4000000 in
theorem ok__law_signs {P : Program} {w : World} {K : PySem.W.Frag} {mg : Str → Option Value} {base : Heap} {T : Addr → Prop} {f : Addr} {fd : FuncData} (FU : Fun K "_law_signs" "_law_signs" t__law_signs f fd) (B_dict : mg "dict" = none) :
    FnOk P w K mg base CX0 1 f fd [] (spD T ⟨K, w⟩ mg 0 f__law_signs) := by
  rw [e_f__law_signs]
  exact
  fn_ok0 (N := []) (ps := []) (st := t__law_signs) (qual := "_law_signs") (x := "_law_signs") (k := 0) (m := m__law_signs) FU sc__law_signs (by decide) fun cdv A outer s H E H0 G0 n0 α0 hcd0 hr => 
   pssd_one (psd_ret (pd_callTy (call_dictP rfl) dict_f (by rfl) B_dict rfl (pda_cons (pd_lst (pda_cons (pd_tup (pda_cons (pd_str) (pda_cons (pd_str) (pda_nil)))) (pda_cons (pd_tup (pda_cons (pd_str) (pda_cons (pd_str) (pda_nil)))) (pda_cons (pd_tup (pda_cons (pd_str) (pda_cons (pd_str) (pda_nil)))) (pda_cons (pd_tup (pda_cons (pd_str) (pda_cons (pd_str) (pda_nil)))) (pda_cons (pd_tup (pda_cons (pd_str) (pda_cons (pd_str) (pda_nil)))) (pda_cons (pd_tup (pda_cons (pd_str) (pda_cons (pd_add (pd_str) (pd_str)) (pda_nil)))) (pda_cons (pd_tup (pda_cons (pd_str) (pda_cons (pd_str) (pda_nil)))) (pda_cons (pd_tup (pda_cons (pd_str) (pda_cons (pd_str) (pda_nil)))) (pda_cons (pd_tup (pda_cons (pd_str) (pda_cons (pd_str) (pda_nil)))) (pda_nil))))))))))) (pda_nil))))
abbrev t__law_hatch : Stmt := top 30
theorem sc__law_hatch : FnScope ["one", "wide", "high", "j", "k"] ["one", "wide", "high"] (defScope t__law_hatch) := ⟨rfl, rfl, rfl, by decide +kernel, rfl, by decide +kernel, by decide +kernel⟩
def m__law_hatch : SM :=
 sRetF (fLc (.sl 4) [4] (iRng1 (aCons (rd 2) (aNil))) (ret true) (eMet "str" joinD (ret (.str "")) (aCons (eVal (fLc (.sl 3) [3] (iRng1 (aCons (rd 1) (aNil))) (ret true) (eBin ixD (eBin ixD (eVal (callM0 f__law_signs)) (rd 0)) (eBin modD (eBin addD (rd 4) (rd 3)) (ret (.int 2)))))) (aNil))))
@[irreducible] def f__law_hatch : Fn := fnOf 5 m__law_hatch
theorem e_f__law_hatch : f__law_hatch = fnOf 5 m__law_hatch := by unfold f__law_hatch; rfl
set_option maxHeartbeats 4000000 in
theorem ok__law_hatch {P : Program} {w : World} {K : PySem.W.Frag} {mg : Str → Option Value} {base : Heap} {T : Addr → Prop} {f : Addr} {fd : FuncData} (FU : Fun K "_law_hatch" "_law_hatch" t__law_hatch f fd) (C__law_signs : CalG P w K mg base T CX0 1 "_law_signs" 0 f__law_signs) (B_range : mg "range" = none) :
    FnOk P w K mg base CX0 2 f fd ["one", "wide", "high"] (spD T ⟨K, w⟩ mg 3 f__law_hatch) := by
  rw [e_f__law_hatch]
  exact
  fn_ok0 (N := ["one", "wide", "high", "j", "k"]) (ps := ["one", "wide", "high"]) (st := t__law_hatch) (qual := "_law_hatch") (x := "_law_hatch") (k := 1) (m := m__law_hatch) FU sc__law_hatch (by decide) fun cdv A outer s H E H0 G0 n0 α0 hcd0 hr => 
   pssd_one (psd_retF (pf_lc (LcP.mk (own := [("k", 4)]) rfl sc__law_hatch.nd (pid_range1 (by rfl) B_range (pda_cons (pvd 2 (pv 2)) (pda_nil))) (blkOk_by (by show blkC ["one", "wide", "high", "j", "k"] (defScope t__law_hatch) _ _ = true; decide +kernel)) rfl (fun _ _ _ _ _ => pgn 4 sc__law_hatch.nd) (fun _ _ _ _ _ _ _ _ _ => pts0) (fun _ _ _ _ _ _ _ _ _ => pd_meth (.inl rfl) PySem.F.plainAttrs_str PySem.F.slot_str_join PySem.F.type_str_join mt_join join_f (pd_str) (pda_cons (pd_of_f (pf_lc (LcP.mk (own := [("j", 3)]) rfl sc__law_hatch.nd (pid_range1 (by rfl) B_range (pda_cons (pvd 1 (pv 1)) (pda_nil))) (blkOk_by (by show blkC ["one", "wide", "high", "j", "k"] (relS _ (defScope t__law_hatch)) _ _ = true; decide +kernel)) rfl (fun _ _ _ _ _ => pgn 3 sc__law_hatch.nd) (fun _ _ _ _ _ _ _ _ _ => pts0) (fun _ _ _ _ _ _ _ _ _ => pd_ix (hu_of hr) (pd_ix (hu_of hr) (pd_of_f (pc0 (C__law_signs.mono (by decide)) hr (by rfl))) (pvd 0 (pv 0)) (fun _ _ => rfl)) (pd_mod (pd_add (pvd 4 (pv 4)) (pvd 3 (pv 3))) (pd_int)) (fun _ _ => rfl))))) (pda_nil))))))
abbrev t_law : Stmt := top 31
theorem sc_law : FnScope ["script", "box", "names", "pairs", "rows", "one", "two", "told", "some", "row", "three", "unlike", "most", "level", "best", "k", "more", "line", "wide", "high", "lines", "sign", "other", "name", "value"] ["script"] (defScope t_law) := ⟨rfl, rfl, rfl, by decide +kernel, rfl, by decide +kernel, by decide +kernel⟩
abbrev l1 : SM :=
 sSetF 1 (fCall 1 f__law_box (aCons (rd 0) (aNil)))
abbrev l2 : SM :=
 sSet 2 (eVal (callM0 f__law_tinctures))
abbrev l3 : SM :=
 sIf (tOr (tCmp neF (eVal (fLc (.sl 5) [5] (iSeq (rd 2)) (ret true) (eVal (fCall 1 f_kind (aCons (rd 5) (aNil)))))) (eVal (fLc (.sl 5) [5] (iSeq (rd 2)) (ret true) (eVal (fCall 1 f__law_kind (aCons (rd 5) (aNil))))))) (tCmp neF (eVal (fLc (.sl 5) [5] (iSeq (rd 2)) (ret true) (eVal (fCall 1 f_letter (aCons (rd 5) (aNil)))))) (eVal (fLc (.sl 21) [21] (iSeq (ret (.str "OAGBSVPEW"))) (ret true) (rd 21))))) (sRet (ret (.bl false))) (sNext)
abbrev l4 : SM :=
 sIf (tCmp neF (eVal (fLc (.sl 21) [21] (iSeq (ret (.str "OAGBSVPEWXo"))) (ret true) (eVal (fCall 1 f_from_letter (aCons (rd 21) (aNil)))))) (eBin addD (rd 2) (eLst (aCons (ret .non) (aCons (ret .non) (aNil)))))) (sRet (ret (.bl false))) (sNext)
abbrev l5 : SM :=
 sPar 3 4 (aCons (ret (.int 0)) (aCons (eLst (aNil)) (aNil)))
abbrev l6 : SM :=
 sFor (.sl 5) (iSeq (rd 2)) (sFor (.sl 6) (iSeq (rd 2)) (sSeq (sSet 7 (eVal (fCall 2 f_may_lie (aCons (rd 5) (aCons (rd 6) (aNil))))))
 (sSeq (sPar 3 4 (aCons (eBin addD (rd 3) (eFn intD (aCons (eVal (fCall 2 f__law_lie (aCons (rd 5) (aCons (rd 6) (aNil))))) (aNil)))) (aCons (eBin addD (rd 4) (eBin mulD (eLst (aCons (eTup (aCons (rd 5) (aCons (rd 6) (aNil)))) (aNil))) (eFn intD (aCons (eVal (fCall 2 f__law_lie (aCons (rd 5) (aCons (rd 6) (aNil))))) (aNil))))) (aNil))))
 (sIf (tOr (tNot (tTru (eOp1 (isiD "bool") (rd 7)))) (tOr (tCmp neF (rd 7) (eVal (fCall 2 f__law_lie (aCons (rd 5) (aCons (rd 6) (aNil)))))) (tCmp neF (eVal (fCall 2 f_may_touch (aCons (rd 5) (aCons (rd 6) (aNil))))) (eBin neF (rd 5) (rd 6))))) (sRet (ret (.bl false))) (sNext)))))
abbrev l7 : SM :=
 sSet 8 (eVal (fLc (.sl 15) [15] (iRng1 (aCons (eVal (fCall 2 f__law_next (aCons (rd 1) (aCons (ret (.int 4)) (aNil))))) (aNil))) (ret true) (eVal (fCall 2 f__law_one (aCons (rd 1) (aCons (rd 2) (aNil)))))))
abbrev l8 : SM :=
 sIf (tOr (tCmp neF (eVal (callM0 f_count_pairs)) (rd 3)) (tOr (tCmp neF (eVal (callM0 f_pairs_that_may)) (rd 4)) (tCmp neF (eVal (fCall 1 f_all_that_may (aCons (rd 8) (aNil)))) (eVal (fLc (.sl 5) [5] (iSeq (rd 2)) (tTru (eFn allD (aCons (eVal (fLc (.sl 22) [22] (iSeq (rd 8)) (ret true) (eVal (fCall 2 f__law_lie (aCons (rd 5) (aCons (rd 22) (aNil))))))) (aNil)))) (rd 5)))))) (sRet (ret (.bl false))) (sNext)
abbrev l9 : SM :=
 sSet 9 (eVal (fLc (.sl 15) [15] (iRng1 (aCons (eVal (fCall 2 f__law_next (aCons (rd 1) (aCons (ret (.int 7)) (aNil))))) (aNil))) (ret true) (eVal (fCall 2 f__law_one (aCons (rd 1) (aCons (rd 2) (aNil)))))))
abbrev l10 : SM :=
 sIf (tCmp neF (eVal (fCall 1 f_contrasts (aCons (rd 9) (aNil)))) (eVal (fLc (.sl 15) [15] (iRng1 (aCons (eBin subD (eFn lenD (aCons (rd 9) (aNil))) (ret (.int 1))) (aNil))) (tNot (tTru (eVal (fCall 2 f__law_lie (aCons (eBin ixD (rd 9) (rd 15)) (aCons (eBin ixD (rd 9) (eBin addD (rd 15) (ret (.int 1)))) (aNil))))))) (eTup (aCons (rd 15) (aCons (eBin addD (rd 15) (ret (.int 1))) (aNil))))))) (sRet (ret (.bl false))) (sNext)
abbrev l11 : SM :=
 sPar3 5 6 10 (aCons (eVal (fCall 2 f__law_one (aCons (rd 1) (aCons (rd 2) (aNil))))) (aCons (eVal (fCall 2 f__law_one (aCons (rd 1) (aCons (rd 2) (aNil))))) (aCons (eVal (fCall 2 f__law_one (aCons (rd 1) (aCons (rd 2) (aNil))))) (aNil))))
abbrev l12 : SM :=
 sIf (tAnd (tCmp neF (rd 5) (rd 6)) (tCmp neF (eVal (fCall 3 f_exchanged (aCons (rd 10) (aCons (rd 5) (aCons (rd 6) (aNil)))))) (eGet (eVal (dispS [(rd 5, rd 6), (rd 6, rd 5)])) (rd 10) (rd 10)))) (sRet (ret (.bl false))) (sNext)
abbrev l13 : SM :=
 sSet 11 (eOp1 sortSetD (eVal (fLc (.sl 15) [15] (iRng1 (aCons (eBin addD (ret (.int 1)) (eVal (fCall 2 f__law_next (aCons (rd 1) (aCons (ret (.int 5)) (aNil)))))) (aNil))) (ret true) (eVal (fCall 2 f__law_one (aCons (rd 1) (aCons (rd 2) (aNil))))))))
abbrev l14 : SM :=
 sSet 12 (eBin addD (ret (.int 1)) (eVal (fCall 2 f__law_next (aCons (rd 1) (aCons (ret (.int 4)) (aNil))))))
abbrev l15 : SM :=
 sPar 13 14 (aCons (eVal (fLc (.sl 23) [23] (iSeq (rd 11)) (ret true) (eTup (aCons (rd 23) (aNil))))) (aCons (eVal (fLc (.sl 23) [23] (iSeq (rd 11)) (ret true) (eTup (aCons (rd 23) (aNil))))) (aNil)))
abbrev l16 : SM :=
 sFor (.sl 15) (iRng1 (aCons (eBin subD (rd 12) (ret (.int 1))) (aNil))) (sSeq (sSet 16 (eLst (aNil)))
 (sSeq (sFor (.sl 17) (iSeq (rd 13)) (sSet 16 (eBin addD (rd 16) (eVal (fLc (.sl 23) [23] (iSeq (rd 11)) (tAnd (tCmp notInD (rd 23) (rd 17)) (tTru (eVal (fCall 2 f__law_lie (aCons (rd 23) (aCons (eBin ixD (rd 17) (eOp1 negD (ret (.int 1)))) (aNil))))))) (eBin addD (rd 17) (eTup (aCons (rd 23) (aNil)))))))))
 (sSeq (sSet 13 (rd 16))
 (sSet 14 (eIf (tCmp gtD (eFn lenD (aCons (rd 16) (aNil))) (ret (.int 0))) (rd 16) (rd 14))))))
abbrev l17 : SM :=
 sIf (tCmp neF (eVal (fCall 2 f_longest_rows (aCons (rd 11) (aCons (rd 12) (aNil))))) (rd 14)) (sRet (ret (.bl false))) (sNext)
abbrev l18 : SM :=
 sAsg (.unp [(.sl 18), (.sl 19)]) (eTup (aCons (eBin addD (ret (.int 1)) (eVal (fCall 2 f__law_next (aCons (rd 1) (aCons (ret (.int 5)) (aNil)))))) (aCons (eBin addD (ret (.int 1)) (eVal (fCall 2 f__law_next (aCons (rd 1) (aCons (ret (.int 4)) (aNil)))))) (aNil))))
abbrev l19 : SM :=
 sSet 20 (eVal (fCall 3 f__law_hatch (aCons (rd 5) (aCons (rd 18) (aCons (rd 19) (aNil))))))
abbrev l20 : SM :=
 sIf (tOr (tCmp neF (eVal (fCall 3 f_hatch (aCons (rd 5) (aCons (rd 18) (aCons (rd 19) (aNil)))))) (rd 20)) (tOr (tCmp neF (eVal (fCall 1 f_from_hatch (aCons (rd 20) (aNil)))) (eVal (fLc (.sl 23) [23] (iSeq (rd 2)) (tCmp eqF (eVal (fCall 3 f__law_hatch (aCons (rd 23) (aCons (rd 18) (aCons (rd 19) (aNil)))))) (rd 20)) (rd 23)))) (tOr (tCmp notInD (rd 5) (eVal (fCall 1 f_from_hatch (aCons (rd 20) (aNil))))) (tCmp neF (eVal (fCall 1 f_from_hatch (aCons (eLst (aNil)) (aNil)))) (rd 2))))) (sRet (ret (.bl false))) (sNext)
abbrev l21 : SM :=
 sIf (tOr (tCmp neF (eVal (fCall 1 f_from_hatch (aCons (eLst (aCons (ret (.str "xx")) (aNil))) (aNil)))) (eLst (aNil))) (tCmp neF (eOp1 lenSetD (eVal (fLc (.sl 23) [23] (iSeq (rd 2)) (ret true) (eMet "str" joinD (ret (.str "")) (aCons (eVal (fCall 3 f__law_hatch (aCons (rd 23) (aCons (ret (.int 2)) (aCons (ret (.int 2)) (aNil)))))) (aNil)))))) (ret (.int 9)))) (sRet (ret (.bl false))) (sNext)
abbrev l22 : SM :=
 sRet (eBin eqF (eVal (fLc (.sl 24) [24] (iSeq (eLst (aCons (ret (.str "or")) (aCons (ret (.str "vair")) (aCons (ret (.str "gold")) (aCons (ret (.str "")) (aCons (ret (.int 1)) (aCons (ret .non) (aNil))))))))) (ret true) (eVal (fCall 1 f_is_tincture (aCons (rd 24) (aNil)))))) (eBin addD (eLst (aCons (ret (.bl true)) (aCons (ret (.bl true)) (aNil)))) (eBin mulD (eLst (aCons (ret (.bl false)) (aNil))) (ret (.int 4)))))
def m_law : SM :=
 sSeq (l1)
 (sCell 1 (sSeq (l2)
 (sSeq (l3)
 (sSeq (l4)
 (sSeq (l5)
 (sSeq (l6)
 (sSeq (l7)
 (sSeq (l8)
 (sSeq (l9)
 (sSeq (l10)
 (sSeq (l11)
 (sSeq (l12)
 (sSeq (l13)
 (sSeq (l14)
 (sSeq (l15)
 (sSeq (l16)
 (sSeq (l17)
 (sSeq (l18)
 (sSeq (l19)
 (sSeq (l20)
 (sSeq (l21)
 (l22))))))))))))))))))))))
@[irreducible] def f_law : Fn := fnOf 25 m_law
theorem e_f_law : f_law = fnOf 25 m_law := by unfold f_law; rfl
set_option maxHeartbeats 4000000 in
theorem ok_law {P : Program} {w : World} {K : PySem.W.Frag} {mg : Str → Option Value} {base : Heap} {T : Addr → Prop} {f : Addr} {fd : FuncData} (FU : Fun K "law" "law" t_law f fd) (C__law_box : CalG P w K mg base T CX0 2 "_law_box" 1 f__law_box) (C__law_hatch : CalG P w K mg base T CX0 2 "_law_hatch" 3 f__law_hatch) (C__law_kind : CalG P w K mg base T CX0 1 "_law_kind" 1 f__law_kind) (C__law_lie : CalG P w K mg base T CX0 2 "_law_lie" 2 f__law_lie) (C__law_next : CalG P w K mg base T CX0 1 "_law_next" 2 f__law_next) (C__law_one : CalG P w K mg base T CX0 2 "_law_one" 2 f__law_one) (C__law_tinctures : CalG P w K mg base T CX0 1 "_law_tinctures" 0 f__law_tinctures) (C_all_that_may : CalG P w K mg base T CX0 4 "all_that_may" 1 f_all_that_may) (C_contrasts : CalG P w K mg base T CX0 3 "contrasts" 1 f_contrasts) (C_count_pairs : CalG P w K mg base T CX0 4 "count_pairs" 0 f_count_pairs) (C_exchanged : CalG P w K mg base T CX0 1 "exchanged" 3 f_exchanged) (C_from_hatch : CalG P w K mg base T CX0 2 "from_hatch" 1 f_from_hatch) (C_from_letter : CalG P w K mg base T CX0 1 "from_letter" 1 f_from_letter) (C_hatch : CalG P w K mg base T CX0 1 "hatch" 3 f_hatch) (C_is_tincture : CalG P w K mg base T CX0 1 "is_tincture" 1 f_is_tincture) (C_kind : CalG P w K mg base T CX0 1 "kind" 1 f_kind) (C_letter : CalG P w K mg base T CX0 1 "letter" 1 f_letter) (C_longest_rows : CalG P w K mg base T CX0 3 "longest_rows" 2 f_longest_rows) (C_may_lie : CalG P w K mg base T CX0 2 "may_lie" 2 f_may_lie) (C_may_touch : CalG P w K mg base T CX0 1 "may_touch" 2 f_may_touch) (C_pairs_that_may : CalG P w K mg base T CX0 3 "pairs_that_may" 0 f_pairs_that_may) (B_all : mg "all" = none) (B_int : mg "int" = none) (B_isinstance : mg "isinstance" = none) (B_len : mg "len" = none) (B_range : mg "range" = none) (B_set : mg "set" = none) (B_sorted : mg "sorted" = none) (B_bool : mg "bool" = none) :
    FnOk P w K mg base CX0 5 f fd ["script"] (spD T ⟨K, w⟩ mg 1 f_law) := by
  rw [e_f_law]
  exact
  fn_ok0 (N := ["script", "box", "names", "pairs", "rows", "one", "two", "told", "some", "row", "three", "unlike", "most", "level", "best", "k", "more", "line", "wide", "high", "lines", "sign", "other", "name", "value"]) (ps := ["script"]) (st := t_law) (qual := "law") (x := "law") (k := 4) (m := m_law) FU sc_law (by decide) fun cdv A outer s H E H0 G0 n0 α0 hcd0 hr => 
   pssd_cons (psd_setF (ps_set sc_law.nd rfl (by first | exact Or.inl rfl | exact Or.inr rfl) (pc (C__law_box.mono (by decide)) hr (by rfl) (pda_cons (pvd 0 (pv 0)) (pda_nil)))))
    (pssd_cell (pssd_cons (psd_set (ps_set sc_law.nd rfl (by first | exact Or.inl rfl | exact Or.inr rfl) (pd_of_f (pc0 (C__law_tinctures.mono (by decide)) hr (by rfl)))))
    (pssd_cons (psd_if (pt_w (pw_orD (pt_cmpD (op_neX (Room.units hr)) ne_f (pd_of_f (pf_lc (LcP.mk (own := [("one", 5)]) rfl sc_law.nd (pid_seq (pvd 2 (pv 2))) (blkOk_by (by show blkC ["script", "box", "names", "pairs", "rows", "one", "two", "told", "some", "row", "three", "unlike", "most", "level", "best", "k", "more", "line", "wide", "high", "lines", "sign", "other", "name", "value"] (defScope t_law) _ _ = true; decide +kernel)) rfl (fun _ _ _ _ _ => pgn 5 sc_law.nd) (fun _ _ _ _ _ _ _ _ _ => pts0) (fun _ _ _ _ _ _ _ _ _ => pd_of_f (pc (C_kind.mono (by decide)) hr (by rfl) (pda_cons (pvd 5 (pv 5)) (pda_nil))))))) (pd_of_f (pf_lc (LcP.mk (own := [("one", 5)]) rfl sc_law.nd (pid_seq (pvd 2 (pv 2))) (blkOk_by (by show blkC ["script", "box", "names", "pairs", "rows", "one", "two", "told", "some", "row", "three", "unlike", "most", "level", "best", "k", "more", "line", "wide", "high", "lines", "sign", "other", "name", "value"] (defScope t_law) _ _ = true; decide +kernel)) rfl (fun _ _ _ _ _ => pgn 5 sc_law.nd) (fun _ _ _ _ _ _ _ _ _ => pts0) (fun _ _ _ _ _ _ _ _ _ => pd_of_f (pc (C__law_kind.mono (by decide)) hr (by rfl) (pda_cons (pvd 5 (pv 5)) (pda_nil))))))) rfl) (pw_or1D (pt_cmpD (op_neX (Room.units hr)) ne_f (pd_of_f (pf_lc (LcP.mk (own := [("one", 5)]) rfl sc_law.nd (pid_seq (pvd 2 (pv 2))) (blkOk_by (by show blkC ["script", "box", "names", "pairs", "rows", "one", "two", "told", "some", "row", "three", "unlike", "most", "level", "best", "k", "more", "line", "wide", "high", "lines", "sign", "other", "name", "value"] (defScope t_law) _ _ = true; decide +kernel)) rfl (fun _ _ _ _ _ => pgn 5 sc_law.nd) (fun _ _ _ _ _ _ _ _ _ => pts0) (fun _ _ _ _ _ _ _ _ _ => pd_of_f (pc (C_letter.mono (by decide)) hr (by rfl) (pda_cons (pvd 5 (pv 5)) (pda_nil))))))) (pd_of_f (pf_lc (LcP.mk (own := [("sign", 21)]) rfl sc_law.nd (pid_seq (pd_str)) (blkOk_by (by show blkC ["script", "box", "names", "pairs", "rows", "one", "two", "told", "some", "row", "three", "unlike", "most", "level", "best", "k", "more", "line", "wide", "high", "lines", "sign", "other", "name", "value"] (defScope t_law) _ _ = true; decide +kernel)) rfl (fun _ _ _ _ _ => pgn 21 sc_law.nd) (fun _ _ _ _ _ _ _ _ _ => pts0) (fun _ _ _ _ _ _ _ _ _ => pvd 21 (pv 21))))) rfl)))) (pssd_one (psd_ret (pd_bl))) (pssd_nil))
    (pssd_cons (psd_if (pt_cmpD (op_neX (Room.units hr)) ne_f (pd_of_f (pf_lc (LcP.mk (own := [("sign", 21)]) rfl sc_law.nd (pid_seq (pd_str)) (blkOk_by (by show blkC ["script", "box", "names", "pairs", "rows", "one", "two", "told", "some", "row", "three", "unlike", "most", "level", "best", "k", "more", "line", "wide", "high", "lines", "sign", "other", "name", "value"] (defScope t_law) _ _ = true; decide +kernel)) rfl (fun _ _ _ _ _ => pgn 21 sc_law.nd) (fun _ _ _ _ _ _ _ _ _ => pts0) (fun _ _ _ _ _ _ _ _ _ => pd_of_f (pc (C_from_letter.mono (by decide)) hr (by rfl) (pda_cons (pvd 21 (pv 21)) (pda_nil))))))) (pd_add (pvd 2 (pv 2)) (pd_lst (pda_cons (pd_non) (pda_cons (pd_non) (pda_nil))))) rfl) (pssd_one (psd_ret (pd_bl))) (pssd_nil))
    (pssd_cons (psd_par rfl sc_law.nd rfl rfl (by decide) rfl rfl (pda_cons (pd_int) (pda_cons (pd_lst (pda_nil)) (pda_nil))) (by rfl))
    (pssd_cons (psd_for PassesOwn.never rfl (pid_seq (pvd 2 (pv 2))) (pgn 5 sc_law.nd) (pssd_one (psd_for PassesOwn.never rfl (pid_seq (pvd 2 (pv 2))) (pgn 6 sc_law.nd) (pssd_cons (psd_set (ps_set sc_law.nd rfl (by first | exact Or.inl rfl | exact Or.inr rfl) (pd_of_f (pc (C_may_lie.mono (by decide)) hr (by rfl) (pda_cons (pvd 5 (pv 5)) (pda_cons (pvd 6 (pv 6)) (pda_nil)))))))
    (pssd_cons (psd_par rfl sc_law.nd rfl rfl (by decide) rfl rfl (pda_cons (pd_add (pvd 3 (pv 3)) (pd_callTy call_int1 int_f (by rfl) B_int rfl (pda_cons (pd_of_f (pc (C__law_lie.mono (by decide)) hr (by rfl) (pda_cons (pvd 5 (pv 5)) (pda_cons (pvd 6 (pv 6)) (pda_nil))))) (pda_nil)))) (pda_cons (pd_add (pvd 4 (pv 4)) (pd_mul (pd_lst (pda_cons (pd_tup (pda_cons (pvd 5 (pv 5)) (pda_cons (pvd 6 (pv 6)) (pda_nil)))) (pda_nil))) (pd_callTy call_int1 int_f (by rfl) B_int rfl (pda_cons (pd_of_f (pc (C__law_lie.mono (by decide)) hr (by rfl) (pda_cons (pvd 5 (pv 5)) (pda_cons (pvd 6 (pv 6)) (pda_nil))))) (pda_nil))))) (pda_nil))) (by rfl))
    (pssd_one (psd_if (pt_w (pw_orD (pt_notD (pt_truthD (pd_isi (by rfl) B_isinstance (by rfl) B_bool rfl (by decide) (pvd 7 (pv 7))))) (pw_orD (pt_cmpD (op_neX (Room.units hr)) ne_f (pvd 7 (pv 7)) (pd_of_f (pc (C__law_lie.mono (by decide)) hr (by rfl) (pda_cons (pvd 5 (pv 5)) (pda_cons (pvd 6 (pv 6)) (pda_nil))))) rfl) (pw_or1D (pt_cmpD (op_neX (Room.units hr)) ne_f (pd_of_f (pc (C_may_touch.mono (by decide)) hr (by rfl) (pda_cons (pvd 5 (pv 5)) (pda_cons (pvd 6 (pv 6)) (pda_nil))))) (pd_cmp (op_neX (Room.units hr)) ne_f (pvd 5 (pv 5)) (pvd 6 (pv 6)) rfl) rfl))))) (pssd_one (psd_ret (pd_bl))) (pssd_nil))))))))
    (pssd_cons (psd_set (ps_set sc_law.nd rfl (by first | exact Or.inl rfl | exact Or.inr rfl) (pd_of_f (pf_lc (LcP.mk (own := [("k", 15)]) rfl sc_law.nd (pid_range1 (by rfl) B_range (pda_cons (pd_of_f (pc (C__law_next.mono (by decide)) hr (by rfl) (pda_cons (pvd 1 (pv 1)) (pda_cons (pd_int) (pda_nil))))) (pda_nil))) (blkOk_by (by show blkC ["script", "box", "names", "pairs", "rows", "one", "two", "told", "some", "row", "three", "unlike", "most", "level", "best", "k", "more", "line", "wide", "high", "lines", "sign", "other", "name", "value"] (defScope t_law) _ _ = true; decide +kernel)) rfl (fun _ _ _ _ _ => pgn 15 sc_law.nd) (fun _ _ _ _ _ _ _ _ _ => pts0) (fun _ _ _ _ _ _ _ _ _ => pd_of_f (pc (C__law_one.mono (by decide)) hr (by rfl) (pda_cons (pvd 1 (pv 1)) (pda_cons (pvd 2 (pv 2)) (pda_nil))))))))))
    (pssd_cons (psd_if (pt_w (pw_orD (pt_cmpD (op_neX (Room.units hr)) ne_f (pd_of_f (pc0 (C_count_pairs.mono (by decide)) hr (by rfl))) (pvd 3 (pv 3)) rfl) (pw_orD (pt_cmpD (op_neX (Room.units hr)) ne_f (pd_of_f (pc0 (C_pairs_that_may.mono (by decide)) hr (by rfl))) (pvd 4 (pv 4)) rfl) (pw_or1D (pt_cmpD (op_neX (Room.units hr)) ne_f (pd_of_f (pc (C_all_that_may.mono (by decide)) hr (by rfl) (pda_cons (pvd 8 (pv 8)) (pda_nil)))) (pd_of_f (pf_lc (LcP.mk (own := [("one", 5)]) rfl sc_law.nd (pid_seq (pvd 2 (pv 2))) (blkOk_by (by show blkC ["script", "box", "names", "pairs", "rows", "one", "two", "told", "some", "row", "three", "unlike", "most", "level", "best", "k", "more", "line", "wide", "high", "lines", "sign", "other", "name", "value"] (defScope t_law) _ _ = true; decide +kernel)) rfl (fun _ _ _ _ _ => pgn 5 sc_law.nd) (fun _ _ _ _ _ _ _ _ _ => pts1 (pt_truthD (pd_callB (cr_all rfl) all_f (by rfl) B_all rfl (pda_cons (pd_of_f (pf_lc (LcP.mk (own := [("other", 22)]) rfl sc_law.nd (pid_seq (pvd 8 (pv 8))) (blkOk_by (by show blkC ["script", "box", "names", "pairs", "rows", "one", "two", "told", "some", "row", "three", "unlike", "most", "level", "best", "k", "more", "line", "wide", "high", "lines", "sign", "other", "name", "value"] (relS _ (defScope t_law)) _ _ = true; decide +kernel)) rfl (fun _ _ _ _ _ => pgn 22 sc_law.nd) (fun _ _ _ _ _ _ _ _ _ => pts0) (fun _ _ _ _ _ _ _ _ _ => pd_of_f (pc (C__law_lie.mono (by decide)) hr (by rfl) (pda_cons (pvd 5 (pv 5)) (pda_cons (pvd 22 (pv 22)) (pda_nil)))))))) (pda_nil))))) (fun _ _ _ _ _ _ _ _ _ => pvd 5 (pv 5))))) rfl))))) (pssd_one (psd_ret (pd_bl))) (pssd_nil))
    (pssd_cons (psd_set (ps_set sc_law.nd rfl (by first | exact Or.inl rfl | exact Or.inr rfl) (pd_of_f (pf_lc (LcP.mk (own := [("k", 15)]) rfl sc_law.nd (pid_range1 (by rfl) B_range (pda_cons (pd_of_f (pc (C__law_next.mono (by decide)) hr (by rfl) (pda_cons (pvd 1 (pv 1)) (pda_cons (pd_int) (pda_nil))))) (pda_nil))) (blkOk_by (by show blkC ["script", "box", "names", "pairs", "rows", "one", "two", "told", "some", "row", "three", "unlike", "most", "level", "best", "k", "more", "line", "wide", "high", "lines", "sign", "other", "name", "value"] (defScope t_law) _ _ = true; decide +kernel)) rfl (fun _ _ _ _ _ => pgn 15 sc_law.nd) (fun _ _ _ _ _ _ _ _ _ => pts0) (fun _ _ _ _ _ _ _ _ _ => pd_of_f (pc (C__law_one.mono (by decide)) hr (by rfl) (pda_cons (pvd 1 (pv 1)) (pda_cons (pvd 2 (pv 2)) (pda_nil))))))))))
    (pssd_cons (psd_if (pt_cmpD (op_neX (Room.units hr)) ne_f (pd_of_f (pc (C_contrasts.mono (by decide)) hr (by rfl) (pda_cons (pvd 9 (pv 9)) (pda_nil)))) (pd_of_f (pf_lc (LcP.mk (own := [("k", 15)]) rfl sc_law.nd (pid_range1 (by rfl) B_range (pda_cons (pd_sub (pd_callB call_len len_f (by rfl) B_len rfl (pda_cons (pvd 9 (pv 9)) (pda_nil))) (pd_int)) (pda_nil))) (blkOk_by (by show blkC ["script", "box", "names", "pairs", "rows", "one", "two", "told", "some", "row", "three", "unlike", "most", "level", "best", "k", "more", "line", "wide", "high", "lines", "sign", "other", "name", "value"] (defScope t_law) _ _ = true; decide +kernel)) rfl (fun _ _ _ _ _ => pgn 15 sc_law.nd) (fun _ _ _ _ _ _ _ _ _ => pts1 (pt_notD (pt_truthD (pd_of_f (pc (C__law_lie.mono (by decide)) hr (by rfl) (pda_cons (pd_ix (hu_of hr) (pvd 9 (pv 9)) (pvd 15 (pv 15)) (fun _ _ => rfl)) (pda_cons (pd_ix (hu_of hr) (pvd 9 (pv 9)) (pd_add (pvd 15 (pv 15)) (pd_int)) (fun _ _ => rfl)) (pda_nil)))))))) (fun _ _ _ _ _ _ _ _ _ => pd_tup (pda_cons (pvd 15 (pv 15)) (pda_cons (pd_add (pvd 15 (pv 15)) (pd_int)) (pda_nil))))))) rfl) (pssd_one (psd_ret (pd_bl))) (pssd_nil))
    (pssd_cons (psd_par3 rfl sc_law.nd rfl rfl rfl (by decide) (by decide) (by decide) rfl rfl rfl (pda_cons (pd_of_f (pc (C__law_one.mono (by decide)) hr (by rfl) (pda_cons (pvd 1 (pv 1)) (pda_cons (pvd 2 (pv 2)) (pda_nil))))) (pda_cons (pd_of_f (pc (C__law_one.mono (by decide)) hr (by rfl) (pda_cons (pvd 1 (pv 1)) (pda_cons (pvd 2 (pv 2)) (pda_nil))))) (pda_cons (pd_of_f (pc (C__law_one.mono (by decide)) hr (by rfl) (pda_cons (pvd 1 (pv 1)) (pda_cons (pvd 2 (pv 2)) (pda_nil))))) (pda_nil)))) (by rfl))
    (pssd_cons (psd_if (pt_w (pw_andD (pt_cmpD (op_neX (Room.units hr)) ne_f (pvd 5 (pv 5)) (pvd 6 (pv 6)) rfl) (pw_and1D (pt_cmpD (op_neX (Room.units hr)) ne_f (pd_of_f (pc (C_exchanged.mono (by decide)) hr (by rfl) (pda_cons (pvd 10 (pv 10)) (pda_cons (pvd 5 (pv 5)) (pda_cons (pvd 6 (pv 6)) (pda_nil)))))) (pd_get2 (hu_of hr) (pd_of_f (pf_disp (ppsd_cons (fun _ _ _ _ => pvd 5 (pv 5)) (fun _ _ _ _ => pvd 6 (pv 6)) (ppsd_cons (fun _ _ _ _ => pvd 6 (pv 6)) (fun _ _ _ _ => pvd 5 (pv 5)) (ppsd_nil))) rfl rfl (by decide) (by decide))) (pvd 10 (pv 10)) (pvd 10 (pv 10)) ⟨rfl, rfl, rfl, rfl⟩) rfl)))) (pssd_one (psd_ret (pd_bl))) (pssd_nil))
    (pssd_cons (psd_set (ps_set sc_law.nd rfl (by first | exact Or.inl rfl | exact Or.inr rfl) (pd_sortSet rfl (by rfl) B_sorted (by rfl) B_set (pd_of_f (pf_lc (LcP.mk (own := [("k", 15)]) rfl sc_law.nd (pid_range1 (by rfl) B_range (pda_cons (pd_add (pd_int) (pd_of_f (pc (C__law_next.mono (by decide)) hr (by rfl) (pda_cons (pvd 1 (pv 1)) (pda_cons (pd_int) (pda_nil)))))) (pda_nil))) (blkOk_by (by show blkC ["script", "box", "names", "pairs", "rows", "one", "two", "told", "some", "row", "three", "unlike", "most", "level", "best", "k", "more", "line", "wide", "high", "lines", "sign", "other", "name", "value"] (defScope t_law) _ _ = true; decide +kernel)) rfl (fun _ _ _ _ _ => pgn 15 sc_law.nd) (fun _ _ _ _ _ _ _ _ _ => pts0) (fun _ _ _ _ _ _ _ _ _ => pd_of_f (pc (C__law_one.mono (by decide)) hr (by rfl) (pda_cons (pvd 1 (pv 1)) (pda_cons (pvd 2 (pv 2)) (pda_nil)))))))))))
    (pssd_cons (psd_set (ps_set sc_law.nd rfl (by first | exact Or.inl rfl | exact Or.inr rfl) (pd_add (pd_int) (pd_of_f (pc (C__law_next.mono (by decide)) hr (by rfl) (pda_cons (pvd 1 (pv 1)) (pda_cons (pd_int) (pda_nil))))))))
    (pssd_cons (psd_par rfl sc_law.nd rfl rfl (by decide) rfl rfl (pda_cons (pd_of_f (pf_lc (LcP.mk (own := [("name", 23)]) rfl sc_law.nd (pid_seq (pvd 11 (pv 11))) (blkOk_by (by show blkC ["script", "box", "names", "pairs", "rows", "one", "two", "told", "some", "row", "three", "unlike", "most", "level", "best", "k", "more", "line", "wide", "high", "lines", "sign", "other", "name", "value"] (defScope t_law) _ _ = true; decide +kernel)) rfl (fun _ _ _ _ _ => pgn 23 sc_law.nd) (fun _ _ _ _ _ _ _ _ _ => pts0) (fun _ _ _ _ _ _ _ _ _ => pd_tup (pda_cons (pvd 23 (pv 23)) (pda_nil)))))) (pda_cons (pd_of_f (pf_lc (LcP.mk (own := [("name", 23)]) rfl sc_law.nd (pid_seq (pvd 11 (pv 11))) (blkOk_by (by show blkC ["script", "box", "names", "pairs", "rows", "one", "two", "told", "some", "row", "three", "unlike", "most", "level", "best", "k", "more", "line", "wide", "high", "lines", "sign", "other", "name", "value"] (defScope t_law) _ _ = true; decide +kernel)) rfl (fun _ _ _ _ _ => pgn 23 sc_law.nd) (fun _ _ _ _ _ _ _ _ _ => pts0) (fun _ _ _ _ _ _ _ _ _ => pd_tup (pda_cons (pvd 23 (pv 23)) (pda_nil)))))) (pda_nil))) (by rfl))
    (pssd_cons (psd_for PassesOwn.never rfl (pid_range1 (by rfl) B_range (pda_cons (pd_sub (pvd 12 (pv 12)) (pd_int)) (pda_nil))) (pgn 15 sc_law.nd) (pssd_cons (psd_set (ps_set sc_law.nd rfl (by first | exact Or.inl rfl | exact Or.inr rfl) (pd_lst (pda_nil))))
    (pssd_cons (psd_for PassesOwn.never rfl (pid_seq (pvd 13 (pv 13))) (pgn 17 sc_law.nd) (pssd_one (psd_set (ps_set sc_law.nd rfl (by first | exact Or.inl rfl | exact Or.inr rfl) (pd_add (pvd 16 (pv 16)) (pd_of_f (pf_lc (LcP.mk (own := [("name", 23)]) rfl sc_law.nd (pid_seq (pvd 11 (pv 11))) (blkOk_by (by show blkC ["script", "box", "names", "pairs", "rows", "one", "two", "told", "some", "row", "three", "unlike", "most", "level", "best", "k", "more", "line", "wide", "high", "lines", "sign", "other", "name", "value"] (defScope t_law) _ _ = true; decide +kernel)) rfl (fun _ _ _ _ _ => pgn 23 sc_law.nd) (fun _ _ _ _ _ _ _ _ _ => pts1 (pt_w (pw_andD (pt_cmpD (notIn_or (Room.u65 hr)) notIn_f (pvd 23 (pv 23)) (pvd 17 (pv 17)) rfl) (pw_and1D (pt_truthD (pd_of_f (pc (C__law_lie.mono (by decide)) hr (by rfl) (pda_cons (pvd 23 (pv 23)) (pda_cons (pd_ix (hu_of hr) (pvd 17 (pv 17)) (pd_neg (pd_int)) (fun _ _ => rfl)) (pda_nil)))))))))) (fun _ _ _ _ _ _ _ _ _ => pd_add (pvd 17 (pv 17)) (pd_tup (pda_cons (pvd 23 (pv 23)) (pda_nil))))))))))))
    (pssd_cons (psd_set (ps_set sc_law.nd rfl (by first | exact Or.inl rfl | exact Or.inr rfl) (pvd 16 (pv 16))))
    (pssd_one (psd_set (ps_set sc_law.nd rfl (by first | exact Or.inl rfl | exact Or.inr rfl) (pd_if (pt_cmpD op_gt gt_f (pd_callB call_len len_f (by rfl) B_len rfl (pda_cons (pvd 16 (pv 16)) (pda_nil))) (pd_int) rfl) (pvd 16 (pv 16)) (pvd 14 (pv 14))))))))))
    (pssd_cons (psd_if (pt_cmpD (op_neX (Room.units hr)) ne_f (pd_of_f (pc (C_longest_rows.mono (by decide)) hr (by rfl) (pda_cons (pvd 11 (pv 11)) (pda_cons (pvd 12 (pv 12)) (pda_nil))))) (pvd 14 (pv 14)) rfl) (pssd_one (psd_ret (pd_bl))) (pssd_nil))
    (pssd_cons (psd_asg (pd_tup (pda_cons (pd_add (pd_int) (pd_of_f (pc (C__law_next.mono (by decide)) hr (by rfl) (pda_cons (pvd 1 (pv 1)) (pda_cons (pd_int) (pda_nil)))))) (pda_cons (pd_add (pd_int) (pd_of_f (pc (C__law_next.mono (by decide)) hr (by rfl) (pda_cons (pvd 1 (pv 1)) (pda_cons (pd_int) (pda_nil)))))) (pda_nil)))) (pgt rfl (pgs1 (pgn 18 sc_law.nd) (pgs1 (pgn 19 sc_law.nd) (pgs0)))))
    (pssd_cons (psd_set (ps_set sc_law.nd rfl (by first | exact Or.inl rfl | exact Or.inr rfl) (pd_of_f (pc (C__law_hatch.mono (by decide)) hr (by rfl) (pda_cons (pvd 5 (pv 5)) (pda_cons (pvd 18 (pv 18)) (pda_cons (pvd 19 (pv 19)) (pda_nil))))))))
    (pssd_cons (psd_if (pt_w (pw_orD (pt_cmpD (op_neX (Room.units hr)) ne_f (pd_of_f (pc (C_hatch.mono (by decide)) hr (by rfl) (pda_cons (pvd 5 (pv 5)) (pda_cons (pvd 18 (pv 18)) (pda_cons (pvd 19 (pv 19)) (pda_nil)))))) (pvd 20 (pv 20)) rfl) (pw_orD (pt_cmpD (op_neX (Room.units hr)) ne_f (pd_of_f (pc (C_from_hatch.mono (by decide)) hr (by rfl) (pda_cons (pvd 20 (pv 20)) (pda_nil)))) (pd_of_f (pf_lc (LcP.mk (own := [("name", 23)]) rfl sc_law.nd (pid_seq (pvd 2 (pv 2))) (blkOk_by (by show blkC ["script", "box", "names", "pairs", "rows", "one", "two", "told", "some", "row", "three", "unlike", "most", "level", "best", "k", "more", "line", "wide", "high", "lines", "sign", "other", "name", "value"] (defScope t_law) _ _ = true; decide +kernel)) rfl (fun _ _ _ _ _ => pgn 23 sc_law.nd) (fun _ _ _ _ _ _ _ _ _ => pts1 (pt_cmpD (op_eqX (Room.units hr)) eq_f (pd_of_f (pc (C__law_hatch.mono (by decide)) hr (by rfl) (pda_cons (pvd 23 (pv 23)) (pda_cons (pvd 18 (pv 18)) (pda_cons (pvd 19 (pv 19)) (pda_nil)))))) (pvd 20 (pv 20)) rfl)) (fun _ _ _ _ _ _ _ _ _ => pvd 23 (pv 23))))) rfl) (pw_orD (pt_cmpD (notIn_or (Room.u65 hr)) notIn_f (pvd 5 (pv 5)) (pd_of_f (pc (C_from_hatch.mono (by decide)) hr (by rfl) (pda_cons (pvd 20 (pv 20)) (pda_nil)))) rfl) (pw_or1D (pt_cmpD (op_neX (Room.units hr)) ne_f (pd_of_f (pc (C_from_hatch.mono (by decide)) hr (by rfl) (pda_cons (pd_lst (pda_nil)) (pda_nil)))) (pvd 2 (pv 2)) rfl)))))) (pssd_one (psd_ret (pd_bl))) (pssd_nil))
    (pssd_cons (psd_if (pt_w (pw_orD (pt_cmpD (op_neX (Room.units hr)) ne_f (pd_of_f (pc (C_from_hatch.mono (by decide)) hr (by rfl) (pda_cons (pd_lst (pda_cons (pd_str) (pda_nil))) (pda_nil)))) (pd_lst (pda_nil)) rfl) (pw_or1D (pt_cmpD (op_neX (Room.units hr)) ne_f (pd_lenSet rfl (by rfl) B_len (by rfl) B_set (pd_of_f (pf_lc (LcP.mk (own := [("name", 23)]) rfl sc_law.nd (pid_seq (pvd 2 (pv 2))) (blkOk_by (by show blkC ["script", "box", "names", "pairs", "rows", "one", "two", "told", "some", "row", "three", "unlike", "most", "level", "best", "k", "more", "line", "wide", "high", "lines", "sign", "other", "name", "value"] (defScope t_law) _ _ = true; decide +kernel)) rfl (fun _ _ _ _ _ => pgn 23 sc_law.nd) (fun _ _ _ _ _ _ _ _ _ => pts0) (fun _ _ _ _ _ _ _ _ _ => pd_meth (.inl rfl) PySem.F.plainAttrs_str PySem.F.slot_str_join PySem.F.type_str_join mt_join join_f (pd_str) (pda_cons (pd_of_f (pc (C__law_hatch.mono (by decide)) hr (by rfl) (pda_cons (pvd 23 (pv 23)) (pda_cons (pd_int) (pda_cons (pd_int) (pda_nil)))))) (pda_nil))))))) (pd_int) rfl)))) (pssd_one (psd_ret (pd_bl))) (pssd_nil))
    (pssd_one (psd_ret (pd_cmp (op_eqX (Room.units hr)) eq_f (pd_of_f (pf_lc (LcP.mk (own := [("value", 24)]) rfl sc_law.nd (pid_seq (pd_lst (pda_cons (pd_str) (pda_cons (pd_str) (pda_cons (pd_str) (pda_cons (pd_str) (pda_cons (pd_int) (pda_cons (pd_non) (pda_nil))))))))) (blkOk_by (by show blkC ["script", "box", "names", "pairs", "rows", "one", "two", "told", "some", "row", "three", "unlike", "most", "level", "best", "k", "more", "line", "wide", "high", "lines", "sign", "other", "name", "value"] (defScope t_law) _ _ = true; decide +kernel)) rfl (fun _ _ _ _ _ => pgn 24 sc_law.nd) (fun _ _ _ _ _ _ _ _ _ => pts0) (fun _ _ _ _ _ _ _ _ _ => pd_of_f (pc (C_is_tincture.mono (by decide)) hr (by rfl) (pda_cons (pvd 24 (pv 24)) (pda_nil))))))) (pd_add (pd_lst (pda_cons (pd_bl) (pda_cons (pd_bl) (pda_nil)))) (pd_mul (pd_lst (pda_cons (pd_bl) (pda_nil))) (pd_int))) rfl))))))))))))))))))))))))
end BZ.k01
end
section
set_option Elab.async false
set_option linter.all false
set_option maxRecDepth 100000
set_option maxHeartbeats 1000000
namespace BZ
/-! ## plain laws of the loops -/
theorem comp_map {f : D → M (Option D)} {ρ : E} {p : D → Bool} {g : D → D} : ∀ (ds : List D), (∀ d ∈ ds, f d ρ = .ok (if p d then some (g d) else none) ρ) → compL f ds ρ = .ok ((ds.filter p).map g) ρ
  | [], _ => rfl
  | d :: ds, h => by
    have h1 := h d (List.mem_cons_self ..)
    have ih := comp_map ds fun x hx => h x (List.mem_cons_of_mem _ hx)
    rw [compL_cons, h1]
    by_cases hp : p d = true
    · rw [if_pos hp]; dsimp only; rw [ih, List.filter_cons_of_pos hp]
      rfl
    · rw [if_neg hp]; dsimp only; rw [ih, List.filter_cons_of_neg hp]
theorem comp_map1 {f : D → M (Option D)} {ρ : E} {g : D → D} (ds : List D) (h : ∀ d ∈ ds, f d ρ = .ok (some (g d)) ρ) : compL f ds ρ = .ok (ds.map g) ρ := by
  have := comp_map (p := fun _ => true) ds h
  rw [this, List.filter_eq_self.mpr fun _ _ => rfl]
theorem comp_inv {f : D → M (Option D)} {I : List D → Prop} {P : D → Prop} {sl : List S} : ∀ (ds : List D) (st : List D), (∀ d ∈ ds, ∀ st, I st → ∃ y st', f d ⟨sl, st⟩ = .ok (some y) ⟨sl, st'⟩ ∧ I st' ∧ P y) → I st →
    ∃ ys st', compL f ds ⟨sl, st⟩ = .ok ys ⟨sl, st'⟩ ∧ I st' ∧ (∀ y ∈ ys, P y) ∧ ys.length = ds.length
  | [], st, _, i => ⟨[], st, rfl, i, (fun y hy => absurd hy (List.not_mem_nil)), rfl⟩
  | d :: ds, st, h, i => by
    obtain ⟨y, st1, e1, i1, p1⟩ := h d (List.mem_cons_self ..) st i
    obtain ⟨ys, st2, e2, i2, p2, l2⟩ := comp_inv ds st1 (fun x hx => h x (List.mem_cons_of_mem _ hx)) i1
    refine ⟨y :: ys, st2, by rw [compL_cons, e1]; dsimp only; rw [e2], i2, fun z hz => ?_, by rw [List.length_cons, List.length_cons, l2]⟩
    rcases List.mem_cons.mp hz with rfl | hz
    · exact p1
    · exact p2 z hz
theorem gen_plain {stp : Bool} {t : Tg} {vs : List Nat} {me : M D} {ρ : E} {p : D → Bool} : ∀ (ds : List D), (∀ d ∈ ds, ∃ ρ1 ρ2, t.set d (ρ.inB vs) = some ρ1 ∧ me ρ1 = .ok (.bl (p d)) ρ2 ∧ ρ2.st = ρ.st) →
    genS stp t vs me ds ρ = .ok (.bl (if stp = true then ds.any p else ds.all p)) ρ
  | [], _ => by cases stp <;> rfl
  | d :: ds, h => by
    obtain ⟨ρ1, ρ2, e1, e2, e3⟩ := h d (List.mem_cons_self ..)
    have ih := gen_plain (stp := stp) ds fun x hx => h x (List.mem_cons_of_mem _ hx)
    rw [genS_cons, e1]
    dsimp only
    rw [e2]
    dsimp only
    have e4 : ({ ρ with st := ρ2.st } : E) = ρ := by rw [e3]
    rw [e4, ih]
    cases stp <;> cases hp : p d <;> simp [hp]
theorem forL_cons {t : Tg} {b : SM} {d : D} {ds : List D} {ρ : E} : forL t b (d :: ds) ρ = match t.set d ρ with
    | none => .no
    | some ρ1 => match b ρ1 with
      | .nx ρ2 => forL t b ds ρ2
      | .ct ρ2 => forL t b ds ρ2
      | .bk ρ2 => .nx ρ2
      | r => r := rfl
theorem for_inv {t : Tg} {b : SM} {I : Nat → E → Prop} : ∀ (ds : List D) (k : Nat) (ρ : E), I k ρ → (∀ i d ρ, ds[i]? = some d → I (k + i) ρ → ∃ ρ1 ρ2, t.set d ρ = some ρ1 ∧ (b ρ1 = .nx ρ2 ∨ b ρ1 = .ct ρ2) ∧ I (k + i + 1) ρ2) →
    ∃ ρ', forL t b ds ρ = .nx ρ' ∧ I (k + ds.length) ρ'
  | [], k, ρ, i, _ => ⟨ρ, rfl, i⟩
  | d :: ds, k, ρ, i, h => by
    obtain ⟨ρ1, ρ2, e1, e2, i2⟩ := h 0 d ρ rfl i
    obtain ⟨ρ', e3, i3⟩ := for_inv ds (k + 1) ρ2 i2 fun j d' ρ' hj ij => by
      have := h (j + 1) d' ρ' hj (by rw [show k + (j + 1) = k + 1 + j by omega]; exact ij)
      rw [show k + (j + 1) + 1 = k + 1 + j + 1 by omega] at this
      exact this
    refine ⟨ρ', ?_, by rw [List.length_cons, show k + (ds.length + 1) = k + 1 + ds.length by omega]; exact i3⟩
    rw [forL_cons, e1]
    rcases e2 with e2 | e2
    · dsimp only; rw [e2]; exact e3
    · dsimp only; rw [e2]; exact e3
/-- a loop as a fold -/
theorem for_fold {t : Tg} {b : SM} {A : Type} {mk : A → E} {step : A → D → A} : ∀ (ds : List D) (a : A), (∀ d ∈ ds, ∀ a, ∃ ρ1, t.set d (mk a) = some ρ1 ∧ b ρ1 = .nx (mk (step a d))) → forL t b ds (mk a) = .nx (mk (ds.foldl step a))
  | [], a, _ => rfl
  | d :: ds, a, h => by
    obtain ⟨ρ1, e1, e2⟩ := h d (List.mem_cons_self ..) a
    have ih := for_fold ds (step a d) fun x hx => h x (List.mem_cons_of_mem _ hx)
    rw [forL_cons, e1]
    dsimp only
    rw [e2]
    exact ih
theorem seq_nx {a b : SM} {ρ ρ' : E} (h : a ρ = .nx ρ') : sSeq a b ρ = b ρ' := by
  unfold sSeq
  rw [h]
theorem seq_rt {a b : SM} {ρ ρ' : E} {s : S} (h : a ρ = .rt s ρ') : sSeq a b ρ = .rt s ρ' := by
  unfold sSeq
  rw [h]
theorem bind_ok {β : Type} {m : M β} {k : β → SM} {ρ ρ' : E} {b : β} (h : m ρ = .ok b ρ') : sBind m k ρ = k b ρ' := by
  unfold sBind
  rw [h]
theorem mbind_ok {α β : Type} {m : M α} {k : α → M β} {ρ ρ' : E} {b : α} (h : m ρ = .ok b ρ') : (m >>= k) ρ = k b ρ' := by
  show M.bind m k ρ = _
  unfold M.bind
  rw [h]
theorem call_ok {np : Nat} {f : Fn} {ds : List D} {ρ : E} {s : S} {st' : List D} (hp : (ds.all D.plain && decide (ds.length = np)) = true) (h : f ds ρ.st = .ok s st') : callM np f ds ρ = .ok s { ρ with st := st' } := by
  unfold callM
  rw [if_pos hp, h]
theorem fn_rt {n : Nat} {m : SM} {ds st : List D} {s : S} {ρ : E} (h : m ⟨slots0 n ds, st⟩ = .rt s ρ) : fnOf n m ds st = .ok s ρ.st := by
  unfold fnOf
  rw [h]
end BZ
end
section
set_option Elab.async false
set_option linter.all false
set_option maxRecDepth 100000
set_option maxHeartbeats 1000000
namespace BZ
/-! ## reckoning, combinator by combinator -/
section
variable {a b c : M D} {ms : M (List D)} {mf : M S} {cb db : M Bool} {ρ ρ1 ρ2 ρ3 : E} {x y z x' y' z' d : D} {ds xs xs' : List D} {k j : Bool} {s : S}
theorem bin_ok {f : D → D → Option D} (ha : a ρ = .ok x ρ1) (hb : b ρ1 = .ok y ρ2) (hf : f x' y' = some z) (hx : deref ρ2 x = some x' := by rfl) (hy : deref ρ2 y = some y' := by rfl) : eBin f a b ρ = .ok z ρ2 := by
  show M.bind a (fun x => M.bind b fun y => op2 f x y) ρ = _
  unfold M.bind
  rw [ha]
  dsimp only
  rw [hb]
  dsimp only
  unfold op2
  rw [hx, hy]
  dsimp only
  rw [hf]
theorem op1_ok' {f : D → Option D} (ha : a ρ = .ok x ρ1) (hf : f x' = some z) (hx : deref ρ1 x = some x' := by rfl) : eOp1 f a ρ = .ok z ρ1 := by
  show M.bind a (fun x => op1 f x) ρ = _
  unfold M.bind
  rw [ha]
  dsimp only
  unfold op1
  rw [hx]
  dsimp only
  rw [hf]
theorem acons_ok (ha : a ρ = .ok d ρ1) (hs : ms ρ1 = .ok ds ρ2) : aCons a ms ρ = .ok (d :: ds) ρ2 := by
  show M.bind a (fun d => M.bind ms fun ds => ret (d :: ds)) ρ = _
  unfold M.bind
  rw [ha]
  dsimp only
  rw [hs]
theorem anil_ok : aNil ρ = .ok [] ρ := rfl
theorem efn_ok {f : List D → Option D} (h : ms ρ = .ok xs ρ1) (hf : f xs' = some z) (hd : derefs ρ1 xs = some xs' := by rfl) : eFn f ms ρ = .ok z ρ1 := by
  show M.bind ms (fun xs => opN f xs) ρ = _
  unfold M.bind
  rw [h]
  dsimp only
  unfold opN
  rw [hd]
  dsimp only
  rw [hf]
theorem val_ok (h : mf ρ = .ok s ρ1) (hs : unS s ρ1 = .ok d ρ1 := by rfl) : eVal mf ρ = .ok d ρ1 := by
  show M.bind mf unS ρ = _
  unfold M.bind
  rw [h]
  exact hs
theorem fcall_ok {np : Nat} {f : Fn} {st' : List D} (h : ms ρ = .ok ds ρ1) (hf : f ds ρ1.st = .ok s st') (hp : (ds.all D.plain && decide (ds.length = np)) = true := by rfl) : fCall np f ms ρ = .ok s { ρ1 with st := st' } := by
  show M.bind ms (callM np f) ρ = _
  unfold M.bind
  rw [h]
  exact call_ok hp hf
theorem lc_ok {t : Tg} {vs : List Nat} {m : M (List D)} {e : M D} {ys : List D} (h : m ρ = .ok ds ρ1) (hl : ds.length ≤ 16777216) (hc : compL (turn t vs cb e) ds ρ1 = .ok ys ρ2) : fLc t vs m cb e ρ = .ok (.own (.lst ys)) ρ2 := by
  show M.bind m (compS (turn t vs cb e)) ρ = _
  unfold M.bind
  rw [h]
  dsimp only
  unfold compS
  rw [if_pos hl, hc]
theorem gen_ok {stp : Bool} {t : Tg} {vs : List Nat} {m : M (List D)} {e : M D} (h : m ρ = .ok ds ρ1) (hg : genS stp t vs e ds ρ1 = .ok d ρ2) : eGen stp t vs m e ρ = .ok d ρ2 := by
  show M.bind m (genS stp t vs e) ρ = _
  unfold M.bind
  rw [h]
  exact hg
theorem tcmp_ok {f : D → D → Option D} (ha : a ρ = .ok x ρ1) (hb : b ρ1 = .ok y ρ2) (hf : f x' y' = some (.bl k)) (hx : deref ρ2 x = some x' := by rfl) (hy : deref ρ2 y = some y' := by rfl) : tCmp f a b ρ = .ok k ρ2 := by
  show M.bind a (fun x => M.bind b fun y => M.bind (op2 f x y) asB) ρ = _
  unfold M.bind
  rw [ha]
  dsimp only
  rw [hb]
  dsimp only
  unfold op2
  rw [hx, hy]
  dsimp only
  rw [hf]
  rfl
theorem ttru_ok (ha : a ρ = .ok x ρ1) (ht : truthD x' = some k) (hx : deref ρ1 x = some x' := by rfl) : tTru a ρ = .ok k ρ1 := by
  show M.bind a truth ρ = _
  unfold M.bind
  rw [ha]
  dsimp only
  unfold truth
  rw [hx]
  dsimp only
  rw [ht]
theorem tnot_ok (h : cb ρ = .ok k ρ1) : tNot cb ρ = .ok (!k) ρ1 := by
  show M.bind cb (fun k => ret (!k)) ρ = _
  unfold M.bind
  rw [h]
theorem tand_ok (h : cb ρ = .ok k ρ1) (h2 : db ρ1 = .ok j ρ1) : tAnd cb db ρ = .ok (k && j) ρ1 := by
  show M.bind cb (fun k => if k = true then db else ret false) ρ = _
  unfold M.bind
  rw [h]
  cases k
  · rfl
  · exact h2
theorem tor_ok (h : cb ρ = .ok k ρ1) (h2 : db ρ1 = .ok j ρ1) : tOr cb db ρ = .ok (k || j) ρ1 := by
  show M.bind cb (fun k => if k = true then ret true else db) ρ = _
  unfold M.bind
  rw [h]
  cases k
  · exact h2
  · rfl
theorem tor_f (h : cb ρ = .ok false ρ1) (h2 : db ρ1 = .ok j ρ2) : tOr cb db ρ = .ok j ρ2 := by
  show M.bind cb (fun k => if k = true then ret true else db) ρ = _
  unfold M.bind
  rw [h]
  exact h2
theorem eif_ok (h : cb ρ = .ok k ρ1) (h2 : (if k = true then a else b) ρ1 = .ok d ρ2) : eIf cb a b ρ = .ok d ρ2 := by
  show M.bind cb (fun k => if k = true then a else b) ρ = _
  unfold M.bind
  rw [h]
  exact h2
theorem iseq_ok (ha : a ρ = .ok x ρ1) (hw : walkD x ρ1 = .ok ds ρ1) : iSeq a ρ = .ok ds ρ1 := by
  show M.bind a walkD ρ = _
  unfold M.bind
  rw [ha]
  exact hw
theorem irng1_ok (h : ms ρ = .ok xs ρ1) (hw : range1D xs ρ1 = .ok ds ρ1) : iRng1 ms ρ = .ok ds ρ1 := by
  show M.bind ms range1D ρ = _
  unfold M.bind
  rw [h]
  exact hw
theorem tup_ok (h : ms ρ = .ok ds ρ1) (hw : mkTup ds ρ1 = .ok d ρ1) : eTup ms ρ = .ok d ρ1 := by
  show M.bind ms mkTup ρ = _
  unfold M.bind
  rw [h]
  exact hw
theorem lst_ok (h : ms ρ = .ok ds ρ1) (hw : mkLst ds ρ1 = .ok d ρ1) : eLst ms ρ = .ok d ρ1 := by
  show M.bind ms mkLst ρ = _
  unfold M.bind
  rw [h]
  exact hw
theorem sset_ok {i : Nat} (ha : a ρ = .ok d ρ1) (hp : d.plain = true) : sSet i a ρ = .nx (ρ1.set i (.val d)) := by
  show sBind a (setD i) ρ = _
  unfold sBind
  rw [ha]
  exact if_pos hp
theorem ssetF_own {i : Nat} (ha : mf ρ = .ok (.own d) ρ1) : sSetF i mf ρ = .nx (ρ1.set i (.own d)) := by
  show sBind mf (setS i) ρ = _
  unfold sBind
  rw [ha]
  rfl
theorem sif_ok {m n : SM} (h : cb ρ = .ok k ρ1) : sIf cb m n ρ = (if k = true then m else n) ρ1 := by
  show sBind cb (fun k => if k = true then m else n) ρ = _
  unfold sBind
  rw [h]
theorem sif_f {m : SM} (h : cb ρ = .ok false ρ1) : sIf cb m sNext ρ = .nx ρ1 := (sif_ok h).trans rfl
theorem sfor_ok {t : Tg} {m : M (List D)} {b : SM} (h : m ρ = .ok ds ρ1) : sFor t m b ρ = forL t b ds ρ1 := by
  show sBind m (forL t b) ρ = _
  unfold sBind
  rw [h]
theorem sretF_ok (h : mf ρ = .ok s ρ1) : sRetF mf ρ = .rt s ρ1 := by
  show sBind mf (fun s ρ => .rt s ρ) ρ = _
  unfold sBind
  rw [h]
theorem sret_ok' {r : RS} (h : a ρ = .ok d ρ1) (hr : retD d ρ1 = r := by rfl) : sRet a ρ = r := by
  show sBind a retD ρ = _
  unfold sBind
  rw [h]
  exact hr
theorem sret_ok (h : a ρ = .ok d ρ1) : sRet a ρ = retD d ρ1 := by
  show sBind a retD ρ = _
  unfold sBind
  rw [h]
end
end BZ
end
section
set_option Elab.async false
set_option linter.all false
set_option maxRecDepth 100000
set_option maxHeartbeats 1000000
namespace BZ.k01
open BZ
def box (r : List D) (a : Int) : D := .dct [.str "row", .str "at"] [.lst r, .int a]
theorem nx1 (r : List D) (a m : Int) (u : D) (sl : List S) : (sSet 2 (eBin ixD (rd 0) (ret (.str "at")))) ⟨[.val (.loc 0), .val (.int m), .un, .un], [box r a]⟩ = .nx ⟨[.val (.loc 0), .val (.int m), .val (.int a), .un], [box r a]⟩ := by rfl
theorem nx2 (r : List D) (a m : Int) : (sPut (rd 0) (ret (.str "at")) (eBin addD (rd 2) (ret (.int 1)))) ⟨[.val (.loc 0), .val (.int m), .val (.int a), .un], [box r a]⟩ = .nx ⟨[.val (.loc 0), .val (.int m), .val (.int a), .un], [box r (a + 1)]⟩ := by rfl
theorem nx3 (r : List D) (a m x : Int) (h : atD r (a % (r.length : Int)) = some (.int x)) (hr : 0 < (r.length : Int)) : (sSet 3 (eBin ixD (eBin ixD (rd 0) (ret (.str "row"))) (eBin modD (rd 2) (eFn lenD (aCons (eBin ixD (rd 0) (ret (.str "row"))) (aNil)))))) ⟨[.val (.loc 0), .val (.int m), .val (.int a), .un], [box r (a + 1)]⟩ = .nx ⟨[.val (.loc 0), .val (.int m), .val (.int a), .val (.int x)], [box r (a + 1)]⟩ := by
  have e1 : (eBin ixD (rd 0) (ret (.str "row"))) ⟨[.val (.loc 0), .val (.int m), .val (.int a), .un], [box r (a + 1)]⟩ = .ok (.lst r) ⟨[.val (.loc 0), .val (.int m), .val (.int a), .un], [box r (a + 1)]⟩ := by rfl
  have e2 : (eFn lenD (aCons (eBin ixD (rd 0) (ret (.str "row"))) (aNil))) ⟨[.val (.loc 0), .val (.int m), .val (.int a), .un], [box r (a + 1)]⟩ = .ok (.int r.length) ⟨[.val (.loc 0), .val (.int m), .val (.int a), .un], [box r (a + 1)]⟩ := by rfl
  have e3 : modD (.int a) (.int r.length) = some (.int (a % (r.length : Int))) := if_pos hr
  exact (sset_ok (bin_ok (f := ixD) e1 (bin_ok (f := modD) (x := .int a) rfl e2 e3) (show ixD (.lst r) (.int (a % (r.length : Int))) = some (.int x) from h)) rfl).trans rfl
theorem nx4 (r : List D) (a m x : Int) (hm : 0 < m) (hr : 0 < (r.length : Int)) (hr2 : (r.length : Int) < 1073741824) : (sRet (eBin modD (eFn intD (aCons (eBin addD (rd 3) (eBin mulD (ret (.int 7919)) (eBin fdivD (rd 2) (eFn lenD (aCons (eBin ixD (rd 0) (ret (.str "row"))) (aNil)))))) (aNil))) (rd 1))) ⟨[.val (.loc 0), .val (.int m), .val (.int a), .val (.int x)], [box r (a + 1)]⟩ = .rt (.val (.int ((x + 7919 * (a / (r.length : Int))) % m))) ⟨[.val (.loc 0), .val (.int m), .val (.int a), .val (.int x)], [box r (a + 1)]⟩ := by
  have e2 : (eFn lenD (aCons (eBin ixD (rd 0) (ret (.str "row"))) (aNil))) ⟨[.val (.loc 0), .val (.int m), .val (.int a), .val (.int x)], [box r (a + 1)]⟩ = .ok (.int r.length) ⟨[.val (.loc 0), .val (.int m), .val (.int a), .val (.int x)], [box r (a + 1)]⟩ := by rfl
  have e3 : fdivD (.int a) (.int r.length) = some (.int (a / (r.length : Int))) := if_pos ⟨hr, hr2⟩
  have e5 : mulD (.int 7919) (.int (a / (r.length : Int))) = some (.int (7919 * (a / (r.length : Int)))) := by
    show (if (-big64 < (7919 : Int) ∧ (7919 : Int) < big64) ∨ (-big64 < (a / (r.length : Int)) ∧ (a / (r.length : Int)) < big64) then some (D.int (7919 * (a / (r.length : Int)))) else none) = _
    exact if_pos (Or.inl ⟨by decide, by decide⟩)
  have e7 : modD (.int (x + 7919 * (a / (r.length : Int)))) (.int m) = some (.int ((x + 7919 * (a / (r.length : Int))) % m)) := if_pos hm
  refine sret_ok' (d := .int ((x + 7919 * (a / (r.length : Int))) % m)) ?_
  exact (bin_ok (f := modD) (efn_ok (f := intD) (z := .int (x + 7919 * (a / (r.length : Int)))) (acons_ok (bin_ok (f := addD) (x := .int x) (z := .int (x + 7919 * (a / (r.length : Int)))) rfl (bin_ok (f := mulD) (x := .int 7919) rfl (bin_ok (f := fdivD) (x := .int a) rfl e2 e3) e5) rfl) anil_ok) rfl) (y := .int m) rfl e7)
theorem law_next (r : List D) (a m x : Int) (hm : 0 < m) (h : atD r (a % (r.length : Int)) = some (.int x)) (hr : 0 < (r.length : Int)) (hr2 : (r.length : Int) < 1073741824) :
    f__law_next [.loc 0, .int m] [box r a] = .ok (.val (.int ((x + 7919 * (a / (r.length : Int))) % m))) [box r (a + 1)] := by
  unfold f__law_next
  refine fn_rt (ρ := ⟨[.val (.loc 0), .val (.int m), .val (.int a), .val (.int x)], [box r (a + 1)]⟩) ?_
  unfold m__law_next
  refine (seq_nx (nx1 r a m .non [])).trans ((seq_nx (nx2 r a m)).trans ((seq_nx (nx3 r a m x h hr)).trans (nx4 r a m x hm hr hr2)))
/-- the box: a row of numbers, a place -/
structure Box (st : List D) : Prop where
  ex : ∃ (ns : List Int) (a : Int), st = [box (ns.map D.int) a] ∧ 0 < ns.length ∧ ns.length < 1073741824
theorem law_next' {st : List D} (B : Box st) (m : Int) (hm : 0 < m) : ∃ (n : Nat) (st' : List D), f__law_next [.loc 0, .int m] st = .ok (.val (.int n)) st' ∧ Box st' ∧ (n : Int) < m := by
  obtain ⟨ns, a, rfl, h1, h2⟩ := B.ex
  have hl : (ns.map D.int).length = ns.length := List.length_map ..
  have h0 : (0 : Int) < ns.length := by omega
  have q1 : 0 ≤ a % (ns.length : Int) := Int.emod_nonneg _ (by omega)
  have q2 : a % (ns.length : Int) < ns.length := Int.emod_lt_of_pos _ h0
  obtain ⟨j, hj⟩ := Int.eq_ofNat_of_zero_le q1
  have hj2 : j < ns.length := by omega
  have hx : atD (ns.map D.int) (a % ((ns.map D.int).length : Int)) = some (.int ns[j]) := by
    rw [hl, hj]
    unfold atD
    have e : L2.ixN (ns.map D.int).length (j : Int) = some j := by
      unfold L2.ixN
      simp [hj2]
    rw [e]
    simp [hj2]
  have := law_next (ns.map D.int) a m ns[j] hm hx (by rw [hl]; exact h0) (by rw [hl]; omega)
  rw [hl] at this
  have p1 := Int.emod_nonneg (ns[j] + 7919 * (a / (ns.length : Int))) (show m ≠ 0 by omega)
  have p2 := Int.emod_lt_of_pos (ns[j] + 7919 * (a / (ns.length : Int))) hm
  obtain ⟨n, hn⟩ := Int.eq_ofNat_of_zero_le p1
  rw [hn] at this p2
  exact ⟨n, _, this, ⟨ns, a + 1, rfl, h1, h2⟩, p2⟩
def names : List D := [.str "or", .str "argent", .str "gules", .str "azure", .str "sable", .str "vert", .str "purpure", .str "ermine", .str "vair"]
theorem law_one {st : List D} (B : Box st) : ∃ (d : D) (st' : List D), f__law_one [.loc 0, .lst names] st = .ok (.val d) st' ∧ Box st' ∧ d ∈ names := by
  obtain ⟨n, st', e, B', hn⟩ := law_next' B 9 (by decide)
  have hn9 : n < names.length := by
    show n < 9
    omega
  refine ⟨names[n], st', ?_, B', List.getElem_mem hn9⟩
  unfold f__law_one
  refine fn_rt (ρ := ⟨[.val (.loc 0), .val (.lst names)], st'⟩) ?_
  unfold m__law_one
  have hi : ixD (.lst names) (.int n) = some names[n] := by
    show atD names n = _
    unfold atD
    have e : L2.ixN names.length (n : Int) = some n := by
      unfold L2.ixN
      simp [hn9]
    rw [e]
    simp [hn9]
  have hd : ∀ d ∈ names, ∀ ρ, retD d ρ = .rt (.val d) ρ := by
    intro d hd ρ
    simp only [names, List.mem_cons, List.not_mem_nil, or_false] at hd
    rcases hd with rfl | rfl | rfl | rfl | rfl | rfl | rfl | rfl | rfl <;> rfl
  refine sret_ok' (d := names[n]) (ρ1 := ⟨[.val (.loc 0), .val (.lst names)], st'⟩) ?_ (hd _ (List.getElem_mem hn9) _)
  refine bin_ok (f := ixD) (x := .lst names) (y := .int n) (ρ1 := ⟨[.val (.loc 0), .val (.lst names)], st⟩) rfl ?_ hi
  refine val_ok (s := .val (.int n)) (fcall_ok (ρ1 := ⟨[.val (.loc 0), .val (.lst names)], st⟩) (ds := [.loc 0, .int 9]) (acons_ok (d := .loc 0) rfl (acons_ok (d := .int 9) ?_ anil_ok)) e)
  exact efn_ok (acons_ok (d := .lst names) rfl anil_ok) rfl
end BZ.k01
end
section
set_option Elab.async false
set_option linter.all false
set_option maxRecDepth 100000
set_option maxHeartbeats 4000000
namespace BZ.k01
open BZ
def lie (a b : D) : Bool := match f__law_lie [a, b] [] with
  | .ok (.val (.bl k)) _ => k
  | _ => false
theorem names_ind {P : D → Prop} (h1 : P (.str "or")) (h2 : P (.str "argent")) (h3 : P (.str "gules")) (h4 : P (.str "azure")) (h5 : P (.str "sable")) (h6 : P (.str "vert")) (h7 : P (.str "purpure")) (h8 : P (.str "ermine")) (h9 : P (.str "vair")) : ∀ d ∈ names, P d := by
  intro d hd
  simp only [names, List.mem_cons, List.not_mem_nil, or_false] at hd
  rcases hd with rfl | rfl | rfl | rfl | rfl | rfl | rfl | rfl | rfl <;> assumption
theorem may_lie_eq (st : List D) : ∀ a ∈ names, ∀ b ∈ names, f_may_lie [a, b] st = .ok (.val (.bl (lie a b))) st := by
  apply names_ind <;> apply names_ind <;> kernel_rfl
theorem law_lie_eq (st : List D) : ∀ a ∈ names, ∀ b ∈ names, f__law_lie [a, b] st = .ok (.val (.bl (lie a b))) st := by
  apply names_ind <;> apply names_ind <;> kernel_rfl
def un23 : List S := List.replicate 23 .un
def slB : List S := match (sSeq l2 (sSeq l3 (sSeq l4 (sSeq l5 l6)))) ⟨.val .non :: .val (.loc 0) :: un23, []⟩ with
  | .nx ρ => ρ.sl.drop 2
  | _ => []
theorem segB (x : D) (st : List D) : (sSeq l2 (sSeq l3 (sSeq l4 (sSeq l5 l6)))) ⟨.val x :: .val (.loc 0) :: un23, st⟩ = .nx ⟨.val x :: .val (.loc 0) :: slB, st⟩ := by kernel_rfl
end BZ.k01
end
section
set_option Elab.async false
set_option linter.all false
set_option maxRecDepth 100000
set_option maxHeartbeats 4000000
namespace BZ.k01
open BZ
theorem range1D_nat (n : Nat) (hn : n ≤ 1000000) (ρ : E) : range1D [.int (n : Int)] ρ = .ok (rgs 0 n) ρ := by
  unfold range1D
  dsimp only
  have h : inB62 (n : Int) = true := by
    unfold inB62
    rw [Bool.and_eq_true]
    exact ⟨decide_eq_true (by omega), decide_eq_true (by omega)⟩
  rw [if_pos h, Int.toNat_natCast]
theorem names_plain : ∀ d ∈ names, d.plain = true := by apply names_ind <;> rfl
abbrev eOne : M D := eVal (fCall 2 f__law_one (aCons (rd 1) (aCons (rd 2) (aNil))))
theorem one_ok {x : D} {tl : List S} {st : List D} (B : Box st) : ∃ d st', eOne ⟨.val x :: .val (.loc 0) :: .val (.lst names) :: tl, st⟩ = .ok d ⟨.val x :: .val (.loc 0) :: .val (.lst names) :: tl, st'⟩ ∧ Box st' ∧ d ∈ names := by
  obtain ⟨d, st', e, B', hd⟩ := law_one B
  refine ⟨d, st', ?_, B', hd⟩
  exact val_ok (s := .val d) (fcall_ok (ds := [.loc 0, .lst names]) (ρ1 := ⟨.val x :: .val (.loc 0) :: .val (.lst names) :: tl, st⟩) (acons_ok rfl (acons_ok rfl anil_ok)) e)
theorem turn_one {x : D} {tl : List S} {st : List D} (B : Box st) (i : Int) : ∃ d st', turn (.sl 15) [15] (ret true) eOne (.int i) ⟨.val x :: .val (.loc 0) :: .val (.lst names) :: tl, st⟩ = .ok (some d) ⟨.val x :: .val (.loc 0) :: .val (.lst names) :: tl, st'⟩ ∧ Box st' ∧ d ∈ names := by
  obtain ⟨d, st', e, B', hd⟩ := one_ok (x := x) (tl := ((tl.map lend).set 12 .un).set 12 (.val (.int i))) B
  refine ⟨d, st', ?_, B', hd⟩
  have e1 : Tg.set (.sl 15) (.int i) (E.inB ⟨.val x :: .val (.loc 0) :: .val (.lst names) :: tl, st⟩ [15]) = some ⟨.val x :: .val (.loc 0) :: .val (.lst names) :: ((tl.map lend).set 12 .un).set 12 (.val (.int i)), st⟩ := rfl
  unfold turn
  rw [e1]
  dsimp only
  show (match eOne ⟨.val x :: .val (.loc 0) :: .val (.lst names) :: ((tl.map lend).set 12 .un).set 12 (.val (.int i)), st⟩ with
      | R.ok y ρ3 => if y.plain then R.ok (some y) (⟨_, ρ3.st⟩ : E) else R.no
      | _ => R.no) = _
  rw [e]
  exact if_pos (names_plain d hd)
/-- [_law_one(box, names) for k in range(..)] -/
theorem ones_ok {x : D} {tl : List S} {st st1 : List D} {n : Nat} {e : M D} (B : Box st1) (hn : n ≤ 1000) (he : e ⟨.val x :: .val (.loc 0) :: .val (.lst names) :: tl, st⟩ = .ok (.int n) ⟨.val x :: .val (.loc 0) :: .val (.lst names) :: tl, st1⟩) :
    ∃ ds st', fLc (.sl 15) [15] (iRng1 (aCons e aNil)) (ret true) eOne ⟨.val x :: .val (.loc 0) :: .val (.lst names) :: tl, st⟩ = .ok (.own (.lst ds)) ⟨.val x :: .val (.loc 0) :: .val (.lst names) :: tl, st'⟩ ∧ Box st' ∧ (∀ d ∈ ds, d ∈ names) ∧ ds.length = n := by
  have hl : (rgs 0 n).length = n := by unfold rgs; simp
  obtain ⟨ds, st', e1, B', h1, h2⟩ := comp_inv (I := Box) (P := fun d => d ∈ names) (f := turn (.sl 15) [15] (ret true) eOne) (sl := .val x :: .val (.loc 0) :: .val (.lst names) :: tl) (rgs 0 n) st1 (fun d hd st hs => by
    unfold rgs at hd
    obtain ⟨i, hi, rfl⟩ := List.mem_map.mp hd
    exact turn_one hs _) B
  refine ⟨ds, st', lc_ok (irng1_ok (acons_ok he anil_ok) ?_) (by rw [hl]; omega) e1, B', h1, h2.trans hl⟩
  exact range1D_nat n (by omega) _
/-- a draw as an expression -/
theorem draw_ok {x : D} {tl : List S} {st : List D} (B : Box st) (m : Int) (hm : 0 < m) : ∃ (n : Nat) (st' : List D), (eVal (fCall 2 f__law_next (aCons (rd 1) (aCons (ret (.int m)) (aNil))))) ⟨.val x :: .val (.loc 0) :: tl, st⟩ = .ok (.int n) ⟨.val x :: .val (.loc 0) :: tl, st'⟩ ∧ Box st' ∧ (n : Int) < m := by
  obtain ⟨n, st', e, B', h⟩ := law_next' B m hm
  exact ⟨n, st', val_ok (s := .val (.int n)) (fcall_ok (ds := [.loc 0, .int m]) (ρ1 := ⟨.val x :: .val (.loc 0) :: tl, st⟩) (acons_ok rfl (acons_ok rfl anil_ok)) e), B', h⟩
theorem l7_ok {x : D} {tl : List S} {st : List D} (B : Box st) : ∃ ds st', l7 ⟨.val x :: .val (.loc 0) :: .val (.lst names) :: tl, st⟩ = .nx ⟨.val x :: .val (.loc 0) :: .val (.lst names) :: tl.set 5 (.val (.lst ds)), st'⟩ ∧ Box st' ∧ (∀ d ∈ ds, d ∈ names) ∧ ds.length < 4 := by
  obtain ⟨n, st1, e1, B1, hn⟩ := draw_ok (x := x) (tl := .val (.lst names) :: tl) B 4 (by decide)
  obtain ⟨ds, st2, e2, B2, h1, h2⟩ := ones_ok B1 (n := n) (by omega) e1
  exact ⟨ds, st2, (sset_ok (val_ok e2) rfl).trans rfl, B2, h1, by omega⟩
theorem l9_ok {x : D} {tl : List S} {st : List D} (B : Box st) : ∃ ds st', l9 ⟨.val x :: .val (.loc 0) :: .val (.lst names) :: tl, st⟩ = .nx ⟨.val x :: .val (.loc 0) :: .val (.lst names) :: tl.set 6 (.val (.lst ds)), st'⟩ ∧ Box st' ∧ (∀ d ∈ ds, d ∈ names) ∧ ds.length < 7 := by
  obtain ⟨n, st1, e1, B1, hn⟩ := draw_ok (x := x) (tl := .val (.lst names) :: tl) B 7 (by decide)
  obtain ⟨ds, st2, e2, B2, h1, h2⟩ := ones_ok B1 (n := n) (by omega) e1
  exact ⟨ds, st2, (sset_ok (val_ok e2) rfl).trans rfl, B2, h1, by omega⟩
end BZ.k01
end
section
set_option Elab.async false
set_option linter.all false
set_option maxRecDepth 100000
set_option maxHeartbeats 4000000
namespace BZ.k01
open BZ
theorem all_that_may_eq (ds : List D) (hd : ∀ d ∈ ds, d ∈ names) (hl : ds.length ≤ 1000) (st : List D) : f_all_that_may [.lst ds] st = .ok (.own (.lst (names.filter fun a => ds.all (lie a)))) st := by
  unfold f_all_that_may
  refine fn_rt (ρ := ⟨[.val (.lst ds), .un, .un], st⟩) ?_
  unfold m_all_that_may
  refine sretF_ok (lc_ok (ds := names) (ρ1 := ⟨[.val (.lst ds), .un, .un], st⟩) rfl (by decide) ?_)
  have h := comp_map (f := turn (.sl 1) [1] (tTru (eGen false (.sl 2) [2] (iSeq (rd 0)) (eVal (fCall 2 f_may_lie (aCons (rd 1) (aCons (rd 2) (aNil))))))) (rd 1)) (ρ := ⟨[.val (.lst ds), .un, .un], st⟩) (p := fun a => ds.all (lie a)) (g := id) names fun a ha => ?_
  · rw [h, List.map_id]
  · have hp := names_plain a ha
    have e1 : Tg.set (.sl 1) a (E.inB ⟨[.val (.lst ds), .un, .un], st⟩ [1]) = some ⟨[.val (.lst ds), .val a, .un], st⟩ := by
      show (if a.plain = true then _ else none) = _
      rw [if_pos hp]
      rfl
    have e2 : (tTru (eGen false (.sl 2) [2] (iSeq (rd 0)) (eVal (fCall 2 f_may_lie (aCons (rd 1) (aCons (rd 2) (aNil))))))) ⟨[.val (.lst ds), .val a, .un], st⟩ = .ok (ds.all (lie a)) ⟨[.val (.lst ds), .val a, .un], st⟩ := by
      refine ttru_ok (x := .bl (ds.all (lie a))) (gen_ok (ds := ds) (ρ1 := ⟨[.val (.lst ds), .val a, .un], st⟩) rfl ?_) rfl
      have := gen_plain (stp := false) (t := .sl 2) (vs := [2]) (me := (eVal (fCall 2 f_may_lie (aCons (rd 1) (aCons (rd 2) (aNil)))))) (ρ := ⟨[.val (.lst ds), .val a, .un], st⟩) (p := lie a) ds fun b hb => ?_
      · rw [this]; rfl
      · have hpb := names_plain b (hd b hb)
        refine ⟨⟨[.val (.lst ds), .val a, .val b], st⟩, ⟨[.val (.lst ds), .val a, .val b], st⟩, ?_, ?_, rfl⟩
        · show (if b.plain = true then _ else none) = _
          rw [if_pos hpb]
          rfl
        · exact val_ok (s := .val (.bl (lie a b))) (fcall_ok (ds := [a, b]) (ρ1 := ⟨[.val (.lst ds), .val a, .val b], st⟩) (acons_ok rfl (acons_ok rfl anil_ok)) (may_lie_eq st a ha b (hd b hb)) (by simp [hp, hpb]))
    unfold turn
    rw [e1]
    dsimp only
    rw [e2]
    cases ds.all (lie a) with
    | false => rfl
    | true =>
      show (match rd 1 ⟨[.val (.lst ds), .val a, .un], st⟩ with
        | R.ok y ρ3 => if y.plain then R.ok (some y) (⟨[.val (.lst ds), .un, .un], ρ3.st⟩ : E) else R.no
        | _ => R.no) = _
      show (if a.plain then R.ok (some a) (⟨[.val (.lst ds), .un, .un], st⟩ : E) else R.no) = _
      rw [if_pos hp]
      rfl
end BZ.k01
end
section
set_option Elab.async false
set_option linter.all false
set_option maxRecDepth 100000
set_option maxHeartbeats 4000000
namespace BZ.k01
open BZ
def rowsV : D := match f_pairs_that_may [] [] with
  | .ok (.own d) _ => d
  | _ => .non
def nV : D := match f_count_pairs [] [] with
  | .ok (.val d) _ => d
  | _ => .non
theorem pairs_eq (st : List D) : f_pairs_that_may [] st = .ok (.own rowsV) st := by kernel_rfl
theorem count_eq (st : List D) : f_count_pairs [] st = .ok (.val nV) st := by kernel_rfl
abbrev slC (x : D) (u v w : S) : List S := [.val x, .val (.loc 0), .val (.lst names), .val nV, .val rowsV, u, v, w, .un, .un, .un, .un, .un, .un, .un, .un, .un, .un, .un, .un, .un, .un, .un, .un, .un]
theorem segC (x : D) (st : List D) : (sSeq l2 (sSeq l3 (sSeq l4 (sSeq l5 l6)))) ⟨.val x :: .val (.loc 0) :: un23, st⟩ = .nx ⟨slC x (.val (.str "vair")) (.val (.str "vair")) (.val (.bl false)), st⟩ := by kernel_rfl
theorem rows_self : neF rowsV rowsV = some (.bl false) := by kernel_rfl
theorem n_self : neF nV nV = some (.bl false) := by kernel_rfl
end BZ.k01
end
section
set_option Elab.async false
set_option linter.all false
set_option maxRecDepth 100000
set_option maxHeartbeats 1000000
namespace BZ
mutual
theorem eqD_self : ∀ (n : Nat) (d : D), depOk n d = true → eqD d d = true
  | _, .non, _ => rfl
  | _, .bl b, _ => by unfold eqD; cases b <;> rfl
  | _, .int i, _ => by unfold eqD; exact beq_self_eq_true i
  | _, .str x, _ => by unfold eqD; exact beq_self_eq_true x
  | n + 1, .lst l, h => by unfold eqD; unfold depOk at h; exact eqDs_self n l h
  | n + 1, .tup l, h => by unfold eqD; unfold depOk at h; exact eqDs_self n l h
  | 0, .lst l, h => by unfold depOk at h; cases h
  | 0, .tup l, h => by unfold depOk at h; cases h
  | n, .dct _ _, h => by cases n <;> (unfold depOk at h; cases h)
  | n, .kd _ _, h => by cases n <;> (unfold depOk at h; cases h)
  | n, .scr _, h => by cases n <;> (unfold depOk at h; cases h)
  | n, .loc _, h => by cases n <;> (unfold depOk at h; cases h)
  | n, .sl _, h => by cases n <;> (unfold depOk at h; cases h)
theorem eqDs_self : ∀ (n : Nat) (l : List D), depOks n l = true → eqDs l l = true
  | _, [], _ => rfl
  | n, d :: l, h => by
    unfold depOks at h
    have h' : depOk n d = true ∧ depOks n l = true := by simpa using h
    unfold eqDs
    rw [eqD_self n d h'.1, eqDs_self n l h'.2]
    rfl
end
theorem neF_self {d : D} (h : depOk 60 d = true) : neF d d = some (.bl false) := by
  unfold neF
  rw [h, eqD_self 60 d h]
  rfl
theorem eqF_self {d : D} (h : depOk 60 d = true) : eqF d d = some (.bl true) := by
  unfold eqF
  rw [h, eqD_self 60 d h]
  rfl
theorem depOks_of {n : Nat} : ∀ {l : List D}, (∀ d ∈ l, depOk n d = true) → depOks n l = true
  | [], _ => by unfold depOks; rfl
  | d :: l, h => by
    unfold depOks
    rw [h d (List.mem_cons_self ..), depOks_of fun x hx => h x (List.mem_cons_of_mem _ hx)]
    rfl
theorem depOk_lst {n : Nat} {l : List D} (h : ∀ d ∈ l, depOk n d = true) : depOk (n + 1) (.lst l) = true := by
  unfold depOk
  exact depOks_of h
theorem depOk_tup {n : Nat} {l : List D} (h : ∀ d ∈ l, depOk n d = true) : depOk (n + 1) (.tup l) = true := by
  unfold depOk
  exact depOks_of h
end BZ
end
section
set_option Elab.async false
set_option linter.all false
set_option maxRecDepth 100000
set_option maxHeartbeats 4000000
namespace BZ
theorem call0_ok {f : Fn} {ρ : E} {s : S} {st' : List D} (h : f [] ρ.st = .ok s st') : callM0 f ρ = .ok s { ρ with st := st' } := by
  unfold callM0
  rw [h]
theorem blsD_map {f : D → Bool} : ∀ (l : List D), blsD (l.map fun b => .bl (f b)) = some (l.map f)
  | [] => rfl
  | d :: l => by
    show (blsD (l.map fun b => .bl (f b))).map (f d :: ·) = _
    rw [blsD_map l]
    rfl
theorem allD_map {f : D → Bool} (l : List D) : allD [.lst (l.map fun b => .bl (f b))] = some (.bl (l.all f)) := by
  show (blsD (l.map fun b => .bl (f b))).map (fun bs => D.bl (bs.all id)) = _
  rw [blsD_map]
  simp
end BZ
namespace BZ.k01
open BZ
abbrev slD (x : D) (u v w : S) (ds : List D) : List S := [.val x, .val (.loc 0), .val (.lst names), .val nV, .val rowsV, u, v, w, .val (.lst ds), .un, .un, .un, .un, .un, .un, .un, .un, .un, .un, .un, .un, .un, .un, .un, .un]
theorem law_all (x : D) (p q : D) (r : D) (ds : List D) (hd : ∀ d ∈ ds, d ∈ names) (hl : ds.length ≤ 1000) (st : List D) : (fLc (.sl 5) [5] (iSeq (rd 2)) (tTru (eFn allD (aCons (eVal (fLc (.sl 22) [22] (iSeq (rd 8)) (ret true) (eVal (fCall 2 f__law_lie (aCons (rd 5) (aCons (rd 22) (aNil))))))) (aNil)))) (rd 5)) ⟨slD x (.val p) (.val q) (.val r) ds, st⟩ = .ok (.own (.lst (names.filter fun a => ds.all (lie a)))) ⟨slD x (.val p) (.val q) (.val r) ds, st⟩ := by
  refine lc_ok (ds := names) (ρ1 := ⟨slD x (.val p) (.val q) (.val r) ds, st⟩) rfl (by decide) ?_
  have h := comp_map (f := turn (.sl 5) [5] (tTru (eFn allD (aCons (eVal (fLc (.sl 22) [22] (iSeq (rd 8)) (ret true) (eVal (fCall 2 f__law_lie (aCons (rd 5) (aCons (rd 22) (aNil))))))) (aNil)))) (rd 5)) (ρ := ⟨slD x (.val p) (.val q) (.val r) ds, st⟩) (p := fun a => ds.all (lie a)) (g := id) names fun a ha => ?_
  · rw [h, List.map_id]
  · have hp := names_plain a ha
    have e1 : Tg.set (.sl 5) a (E.inB ⟨slD x (.val p) (.val q) (.val r) ds, st⟩ [5]) = some ⟨slD x (.val a) (.val q) (.val r) ds, st⟩ := by
      show (if a.plain = true then _ else none) = _
      rw [if_pos hp]
      rfl
    have e2 : (tTru (eFn allD (aCons (eVal (fLc (.sl 22) [22] (iSeq (rd 8)) (ret true) (eVal (fCall 2 f__law_lie (aCons (rd 5) (aCons (rd 22) (aNil))))))) (aNil)))) ⟨slD x (.val a) (.val q) (.val r) ds, st⟩ = .ok (ds.all (lie a)) ⟨slD x (.val a) (.val q) (.val r) ds, st⟩ := by
      refine ttru_ok (x := .bl (ds.all (lie a))) (efn_ok (xs := [.lst (ds.map fun b => .bl (lie a b))]) (ρ1 := ⟨slD x (.val a) (.val q) (.val r) ds, st⟩) (acons_ok (val_ok (s := .own (.lst (ds.map fun b => .bl (lie a b)))) (lc_ok (ds := ds) (ρ1 := ⟨slD x (.val a) (.val q) (.val r) ds, st⟩) rfl (by omega) ?_)) anil_ok) (allD_map ds)) rfl
      refine comp_map1 ds fun b hb => ?_
      have hpb := names_plain b (hd b hb)
      have e3 : Tg.set (.sl 22) b (E.inB ⟨slD x (.val a) (.val q) (.val r) ds, st⟩ [22]) = some ⟨(slD x (.val a) (.val q) (.val r) ds).set 22 (.val b), st⟩ := by
        show (if b.plain = true then _ else none) = _
        rw [if_pos hpb]
        rfl
      have e4 : (eVal (fCall 2 f__law_lie (aCons (rd 5) (aCons (rd 22) (aNil))))) ⟨(slD x (.val a) (.val q) (.val r) ds).set 22 (.val b), st⟩ = .ok (.bl (lie a b)) ⟨(slD x (.val a) (.val q) (.val r) ds).set 22 (.val b), st⟩ :=
        val_ok (s := .val (.bl (lie a b))) (fcall_ok (ds := [a, b]) (ρ1 := ⟨(slD x (.val a) (.val q) (.val r) ds).set 22 (.val b), st⟩) (acons_ok rfl (acons_ok rfl anil_ok)) (law_lie_eq st a ha b (hd b hb)) (by simp [hp, hpb]))
      unfold turn
      rw [e3]
      dsimp only [ret]
      rw [e4]
      rfl
    unfold turn
    rw [e1]
    dsimp only
    rw [e2]
    cases ds.all (lie a) with
    | false => rfl
    | true =>
      show (if a.plain then R.ok (some a) (⟨slD x (.val p) (.val q) (.val r) ds, st⟩ : E) else R.no) = _
      rw [if_pos hp]
      rfl
theorem deref_n (ρ : E) : deref ρ nV = some nV := by kernel_rfl
theorem deref_rows (ρ : E) : deref ρ rowsV = some rowsV := by kernel_rfl
theorem names_dep {n : Nat} : ∀ d ∈ names, depOk n d = true := by apply names_ind <;> (cases n <;> rfl)
theorem l8_ok (x : D) (p q r : D) (ds : List D) (hd : ∀ d ∈ ds, d ∈ names) (hl : ds.length ≤ 1000) (st : List D) : l8 ⟨slD x (.val p) (.val q) (.val r) ds, st⟩ = .nx ⟨slD x (.val p) (.val q) (.val r) ds, st⟩ := by
  refine sif_f (tor_f (tcmp_ok (val_ok (s := .val nV) (call0_ok (count_eq st)) rfl) rfl n_self (deref_n _) (deref_n _)) (tor_f (tcmp_ok (val_ok (s := .own rowsV) (call0_ok (pairs_eq st)) rfl) rfl rows_self (deref_rows _) (deref_rows _)) ?_))
  refine tcmp_ok (x' := .lst (names.filter fun a => ds.all (lie a))) (val_ok (s := .own (.lst (names.filter fun a => ds.all (lie a)))) (fcall_ok (ds := [.lst ds]) (ρ1 := ⟨slD x (.val p) (.val q) (.val r) ds, st⟩) (acons_ok rfl anil_ok) (all_that_may_eq ds hd hl st))) (val_ok (law_all x p q r ds hd hl st)) (neF_self (depOk_lst fun d h => names_dep d (List.mem_filter.mp h).1))
end BZ.k01
end
section
set_option Elab.async false
set_option linter.all false
set_option maxRecDepth 100000
set_option maxHeartbeats 4000000
namespace BZ.k01
open BZ
/-- three draws -/
theorem l11_ok {x : D} {tl : List S} {st : List D} (B : Box st) : ∃ a b c st', l11 ⟨.val x :: .val (.loc 0) :: .val (.lst names) :: tl, st⟩ = .nx ⟨.val x :: .val (.loc 0) :: .val (.lst names) :: ((tl.set 2 (.val a)).set 3 (.val b)).set 7 (.val c), st'⟩ ∧ Box st' ∧ a ∈ names ∧ b ∈ names ∧ c ∈ names := by
  obtain ⟨a, st1, e1, B1, ha⟩ := one_ok (x := x) (tl := tl) B
  obtain ⟨b, st2, e2, B2, hb⟩ := one_ok (x := x) (tl := tl) B1
  obtain ⟨c, st3, e3, B3, hc⟩ := one_ok (x := x) (tl := tl) B2
  refine ⟨a, b, c, st3, ?_, B3, ha, hb, hc⟩
  refine (bind_ok (acons_ok e1 (acons_ok e2 (acons_ok e3 anil_ok)))).trans ?_
  unfold par3S
  simp [names_plain a ha, names_plain b hb, names_plain c hc]
/-- one, two, three of the names: exchanged against the dict -/
theorem exch : ∀ a ∈ names, ∀ b ∈ names, ∀ c ∈ names, ∀ (st : List D), ∃ d, f_exchanged [c, a, b] st = .ok (.val d) st ∧ d ∈ names := by
  intro a ha b hb c hc st
  have h : f_exchanged [c, a, b] st = .ok (.val (if eqD c a then b else if eqD c b then a else c)) st := by
    revert a b c
    apply names_ind <;> apply names_ind <;> (intro hb; apply names_ind <;> kernel_rfl)
  exact ⟨_, h, by split; exact hb; split; exact ha; exact hc⟩
abbrev slE (x a b c : D) (w : S) (ds es : List D) : List S := [.val x, .val (.loc 0), .val (.lst names), .val nV, .val rowsV, .val a, .val b, w, .val (.lst ds), .val (.lst es), .val c, .un, .un, .un, .un, .un, .un, .un, .un, .un, .un, .un, .un, .un, .un]
theorem l12_ok (x : D) (w : S) (ds es : List D) (st : List D) : ∀ a ∈ names, ∀ b ∈ names, ∀ c ∈ names, l12 ⟨slE x a b c w ds es, st⟩ = .nx ⟨slE x a b c w ds es, st⟩ := by
  apply names_ind <;> apply names_ind <;> apply names_ind <;> kernel_rfl
end BZ.k01
end
section
set_option Elab.async false
set_option linter.all false
set_option maxRecDepth 100000
set_option maxHeartbeats 4000000
namespace BZ.k01
open BZ
theorem l22_ok (x : D) (s3 s4 s5 s6 s7 s8 s9 s10 s11 s12 s13 s14 s15 s16 s17 s18 s19 s20 : S) (st : List D) : l22 ⟨[.val x, .val (.loc 0), .val (.lst names), s3, s4, s5, s6, s7, s8, s9, s10, s11, s12, s13, s14, s15, s16, s17, s18, s19, s20, .un, .un, .un, .un], st⟩ = .rt (.val (.bl true)) ⟨[.val x, .val (.loc 0), .val (.lst names), s3, s4, s5, s6, s7, s8, s9, s10, s11, s12, s13, s14, s15, s16, s17, s18, s19, s20, .un, .un, .un, .un], st⟩ := by kernel_rfl
theorem l21_ok' (x : D) (s3 s4 s5 s6 s7 s8 s9 s10 s11 s12 s13 s14 s15 s16 s17 s18 s19 s20 : S) (st : List D) : l21 ⟨[.val x, .val (.loc 0), .val (.lst names), s3, s4, s5, s6, s7, s8, s9, s10, s11, s12, s13, s14, s15, s16, s17, s18, s19, s20, .un, .un, .un, .un], st⟩ = .nx ⟨[.val x, .val (.loc 0), .val (.lst names), s3, s4, s5, s6, s7, s8, s9, s10, s11, s12, s13, s14, s15, s16, s17, s18, s19, s20, .un, .un, .un, .un], st⟩ := by kernel_rfl
end BZ.k01
end
section
set_option Elab.async false
set_option linter.all false
set_option maxRecDepth 100000
set_option maxHeartbeats 4000000
namespace BZ.k01
open BZ
theorem draw1_ok {x : D} {tl : List S} {st : List D} (B : Box st) (m : Int) (hm : 0 < m) : ∃ (n : Nat) (st' : List D), (eBin addD (ret (.int 1)) (eVal (fCall 2 f__law_next (aCons (rd 1) (aCons (ret (.int m)) (aNil)))))) ⟨.val x :: .val (.loc 0) :: tl, st⟩ = .ok (.int n) ⟨.val x :: .val (.loc 0) :: tl, st'⟩ ∧ Box st' ∧ 1 ≤ n ∧ (n : Int) ≤ m := by
  obtain ⟨n, st', e, B', h⟩ := draw_ok (x := x) (tl := tl) B m hm
  refine ⟨n + 1, st', bin_ok (f := addD) (x := .int 1) (y := .int n) rfl e ?_, B', by omega, by omega⟩
  show some (D.int (1 + (n : Int))) = some (D.int ((n + 1 : Nat) : Int))
  rw [show (1 + (n : Int)) = ((n + 1 : Nat) : Int) by omega]
theorem l14_ok {x : D} {tl : List S} {st : List D} (B : Box st) : ∃ (n : Nat) (st' : List D), l14 ⟨.val x :: .val (.loc 0) :: tl, st⟩ = .nx ⟨.val x :: .val (.loc 0) :: tl.set 10 (.val (.int n)), st'⟩ ∧ Box st' ∧ 1 ≤ n ∧ n ≤ 4 := by
  obtain ⟨n, st1, e1, B1, h1, h2⟩ := draw1_ok (x := x) (tl := tl) B 4 (by decide)
  exact ⟨n, st1, (sset_ok e1 rfl).trans rfl, B1, h1, by omega⟩
theorem l18_ok {x : D} {tl : List S} {st : List D} (B : Box st) : ∃ (n m : Nat) (st' : List D), l18 ⟨.val x :: .val (.loc 0) :: tl, st⟩ = .nx ⟨.val x :: .val (.loc 0) :: (tl.set 16 (.val (.int n))).set 17 (.val (.int m)), st'⟩ ∧ Box st' ∧ 1 ≤ n ∧ n ≤ 5 ∧ 1 ≤ m ∧ m ≤ 4 := by
  obtain ⟨n, st1, e1, B1, h1, h2⟩ := draw1_ok (x := x) (tl := tl) B 5 (by decide)
  obtain ⟨m, st2, e2, B2, h3, h4⟩ := draw1_ok (x := x) (tl := tl) B1 4 (by decide)
  exact ⟨n, m, st2, (bind_ok (tup_ok (d := .tup [.int n, .int m]) (acons_ok e1 (acons_ok e2 anil_ok)) rfl)).trans rfl, B2, h1, by omega, h3, by omega⟩
end BZ.k01
end
section
set_option Elab.async false
set_option linter.all false
set_option maxRecDepth 100000
set_option maxHeartbeats 4000000
namespace BZ.k01
open BZ
theorem strs_names : ∀ (l : List D), (∀ d ∈ l, d ∈ names) → ∃ ss, strsD l = some ss ∧ l = ss.map D.str
  | [], _ => ⟨[], rfl, rfl⟩
  | d :: l, h => by
    obtain ⟨ss, h1, h2⟩ := strs_names l fun x hx => h x (List.mem_cons_of_mem _ hx)
    have hd := h d (List.mem_cons_self ..)
    have : ∃ s, d = D.str s := by
      revert d
      intro d _ hd
      revert d
      exact fun d _ hd => (names_ind (P := fun d => ∃ s, d = D.str s) ⟨_, rfl⟩ ⟨_, rfl⟩ ⟨_, rfl⟩ ⟨_, rfl⟩ ⟨_, rfl⟩ ⟨_, rfl⟩ ⟨_, rfl⟩ ⟨_, rfl⟩ ⟨_, rfl⟩) d hd
    obtain ⟨s, rfl⟩ := this
    refine ⟨s :: ss, ?_, by rw [List.map_cons, ← h2]⟩
    unfold strsD
    rw [h1]
    rfl
theorem uniq_len {α : Type} [DecidableEq α] : ∀ (l : List α), (uniq l).length ≤ l.length
  | [] => Nat.le_refl _
  | x :: r => by
    have := uniq_len r
    unfold uniq
    split
    · rw [List.length_cons]; omega
    · rw [List.length_cons, List.length_cons]; omega
theorem sortSet_names (ds : List D) (hd : ∀ d ∈ ds, d ∈ names) (hl : ds.length < 1000) : ∃ us, sortSetD (.lst ds) = some (.lst us) ∧ (∀ d ∈ us, d ∈ names) ∧ us.length ≤ ds.length := by
  obtain ⟨ss, h1, h2⟩ := strs_names ds hd
  have hlen : ss.length = ds.length := by rw [h2, List.length_map]
  refine ⟨(srt ltS (uniq ss)).map .str, ?_, fun d h => ?_, ?_⟩
  · unfold sortSetD; dsimp only
    rw [h1]
    dsimp only
    rw [if_pos (by omega)]
  · obtain ⟨s, hs, rfl⟩ := List.mem_map.mp h
    have hs := mem_uniq.mp ((srt_perm ltS _).mem_iff.mp hs)
    exact hd _ (by rw [h2]; exact List.mem_map.mpr ⟨s, hs, rfl⟩)
  · rw [List.length_map, (srt_perm ltS _).length_eq, ← hlen]
    exact uniq_len ss
theorem l13_ok {x : D} {tl : List S} {st : List D} (B : Box st) : ∃ us st', l13 ⟨.val x :: .val (.loc 0) :: .val (.lst names) :: tl, st⟩ = .nx ⟨.val x :: .val (.loc 0) :: .val (.lst names) :: tl.set 8 (.val (.lst us)), st'⟩ ∧ Box st' ∧ (∀ d ∈ us, d ∈ names) ∧ us.length ≤ 5 := by
  obtain ⟨n, st1, e1, B1, hn1, hn2⟩ := draw1_ok (x := x) (tl := .val (.lst names) :: tl) B 5 (by decide)
  obtain ⟨ds, st2, e2, B2, h1, h2⟩ := ones_ok B1 (n := n) (by omega) e1
  obtain ⟨us, h3, h4, h5⟩ := sortSet_names ds h1 (by omega)
  exact ⟨us, st2, (sset_ok (op1_ok' (f := sortSetD) (val_ok e2) h3) rfl).trans rfl, B2, h4, by omega⟩
end BZ.k01
end
section
set_option Elab.async false
set_option linter.all false
set_option maxRecDepth 100000
set_option maxHeartbeats 1000000
namespace BZ
/-! ## stepping by simp -/
def R.bd {α β : Type} (r : R α) (k : α → E → R β) : R β := match r with
  | .ok a e => k a e
  | .ex x e => .ex x e
  | .no => .no
def R.bn {α β : Type} (r : R α) (k : α → E → R β) : R β := match r with
  | .ok a e => k a e
  | _ => .no
def R.bs {α : Type} (r : R α) (k : α → E → RS) : RS := match r with
  | .ok a e => k a e
  | .ex x e => .ex x e
  | .no => .no
def RS.bd (r : RS) (k : E → RS) : RS := match r with
  | .nx e => k e
  | r => r
section
variable {α β : Type} {a b c : M D} {ms : M (List D)} {mf : M S} {cb db : M Bool} {ρ ρ1 : E} {x y d : D} {f f' : D → D → Option D} {k : Bool}
@[simp] theorem bd_ok {z : α} {k : α → E → R β} : (R.ok z ρ).bd k = k z ρ := rfl
@[simp] theorem bn_ok {z : α} {k : α → E → R β} : (R.ok z ρ).bn k = k z ρ := rfl
@[simp] theorem bs_ok {z : α} {k : α → E → RS} : (R.ok z ρ).bs k = k z ρ := rfl
@[simp] theorem rbd_nx {k : E → RS} : (RS.nx ρ).bd k = k ρ := rfl
@[simp] theorem rbd_rt {s : S} {k : E → RS} : (RS.rt s ρ).bd k = .rt s ρ := rfl
@[simp] theorem rbd_bk {k : E → RS} : (RS.bk ρ).bd k = .bk ρ := rfl
@[simp] theorem rbd_ct {k : E → RS} : (RS.ct ρ).bd k = .ct ρ := rfl
@[simp] theorem r_ret {z : α} : ret z ρ = .ok z ρ := rfl
@[simp] theorem r_rd {i : Nat} {sl : List S} {st : List D} : rd i ⟨sl, st⟩ = match sl[i]? with
  | some (.val d) => .ok d ⟨sl, st⟩
  | some (.own _) => .ok (.sl i) ⟨sl, st⟩
  | some (.lent _) => .ok (.sl i) ⟨sl, st⟩
  | _ => .no := rfl
@[simp] theorem r_bin : eBin f a b ρ = (a ρ).bd fun x ρ1 => (b ρ1).bd fun y ρ2 => op2 f x y ρ2 := rfl
@[simp] theorem r_op1 {f : D → Option D} : eOp1 f a ρ = (a ρ).bd fun x ρ1 => op1 f x ρ1 := rfl
@[simp] theorem r_tup : eTup ms ρ = (ms ρ).bd fun x ρ1 => mkTup x ρ1 := rfl
@[simp] theorem r_lst : eLst ms ρ = (ms ρ).bd fun x ρ1 => mkLst x ρ1 := rfl
@[simp] theorem r_lstF : eLstF ms ρ = (ms ρ).bd fun x ρ1 => mkLstF x ρ1 := rfl
@[simp] theorem r_not : eNot a ρ = (a ρ).bd fun x ρ1 => (truth x ρ1).bd fun k ρ2 => .ok (.bl (!k)) ρ2 := rfl
@[simp] theorem r_and : eAnd a b ρ = (a ρ).bd fun x ρ1 => (truth x ρ1).bd fun k ρ2 => (if k = true then b else ret x) ρ2 := rfl
@[simp] theorem r_or : eOr a b ρ = (a ρ).bd fun x ρ1 => (truth x ρ1).bd fun k ρ2 => (if k = true then ret x else b) ρ2 := rfl
@[simp] theorem r_if : eIf cb a b ρ = (cb ρ).bd fun k ρ1 => (if k = true then a else b) ρ1 := rfl
@[simp] theorem r_chn : eChn f f' a b c ρ = (a ρ).bd fun x ρ1 => (b ρ1).bd fun y ρ2 => (op2 f x y ρ2).bd fun z ρ3 => (asB z ρ3).bd fun k ρ4 => (if k = true then ((fun ρ => (c ρ).bd fun t ρ5 => op2 f' y t ρ5) : M D) else ret (.bl false)) ρ4 := rfl
@[simp] theorem r_fn {f : List D → Option D} : eFn f ms ρ = (ms ρ).bd fun xs ρ1 => opN f xs ρ1 := rfl
@[simp] theorem r_met {T : String} {f : D → List D → Option D} : eMet T f a ms ρ = (a ρ).bd fun x ρ1 => (kindOk T x ρ1).bd fun _ ρ2 => (ms ρ2).bd fun xs ρ3 => opM f x xs ρ3 := rfl
@[simp] theorem r_val : eVal mf ρ = (mf ρ).bd fun s ρ1 => unS s ρ1 := rfl
@[simp] theorem r_fr : eFr a ρ = (a ρ).bd fun s ρ1 => toS s ρ1 := rfl
@[simp] theorem r_call {np : Nat} {f : Fn} : fCall np f ms ρ = (ms ρ).bd fun s ρ1 => callM np f s ρ1 := rfl
@[simp] theorem r_acons : aCons a ms ρ = (a ρ).bd fun d ρ1 => (ms ρ1).bd fun ds ρ2 => .ok (d :: ds) ρ2 := rfl
@[simp] theorem r_anil : aNil ρ = .ok [] ρ := rfl
@[simp] theorem r_tcmp : tCmp f a b ρ = (a ρ).bd fun x ρ1 => (b ρ1).bd fun y ρ2 => (op2 f x y ρ2).bd fun z ρ3 => asB z ρ3 := rfl
@[simp] theorem r_ttru : tTru a ρ = (a ρ).bd fun x ρ1 => truth x ρ1 := rfl
@[simp] theorem r_tnot : tNot cb ρ = (cb ρ).bd fun k ρ1 => .ok (!k) ρ1 := rfl
@[simp] theorem r_tand : tAnd cb db ρ = (cb ρ).bd fun k ρ1 => (if k = true then db else ret false) ρ1 := rfl
@[simp] theorem r_tor : tOr cb db ρ = (cb ρ).bd fun k ρ1 => (if k = true then ret true else db) ρ1 := rfl
@[simp] theorem r_iseq : iSeq a ρ = (a ρ).bd fun x ρ1 => walkD x ρ1 := rfl
@[simp] theorem r_irng1 : iRng1 ms ρ = (ms ρ).bd fun x ρ1 => range1D x ρ1 := rfl
@[simp] theorem r_irng2 : iRng2 ms ρ = (ms ρ).bd fun x ρ1 => range2D x ρ1 := rfl
@[simp] theorem r_ienum : iEnum ms ρ = (ms ρ).bd fun x ρ1 => enumD x ρ1 := rfl
@[simp] theorem r_izip : iZip ms ρ = (ms ρ).bd fun x ρ1 => zipD x ρ1 := rfl
@[simp] theorem r_ienzip : iEnZip ms ρ = (ms ρ).bd fun x ρ1 => enzipD x ρ1 := rfl
@[simp] theorem r_sl {l u : M (Option Int)} : eSl a l u ρ = (a ρ).bd fun x ρ1 => (l ρ1).bd fun l ρ2 => (u ρ2).bd fun u ρ3 => slD x l u ρ3 := rfl
@[simp] theorem r_osm : oSm a ρ = (a ρ).bd fun x ρ1 => asI x ρ1 := rfl
@[simp] theorem r_ono : oNo ρ = .ok none ρ := rfl
@[simp] theorem r_get : eGet a b c ρ = (a ρ).bd fun x ρ1 => (isDct x ρ1).bd fun _ ρ2 => (b ρ2).bd fun k ρ3 => (c ρ3).bd fun z ρ4 => getM x k z ρ4 := rfl
@[simp] theorem r_lc {t : Tg} {vs : List Nat} : fLc t vs ms cb a ρ = (ms ρ).bd fun ds ρ1 => compS (turn t vs cb a) ds ρ1 := rfl
@[simp] theorem r_gen {st : Bool} {t : Tg} {vs : List Nat} : eGen st t vs ms a ρ = (ms ρ).bd fun ds ρ1 => genS st t vs a ds ρ1 := rfl
@[simp] theorem r_sret : sRet a ρ = (a ρ).bs retD := rfl
@[simp] theorem r_sretF : sRetF mf ρ = (mf ρ).bs fun s ρ => .rt s ρ := rfl
@[simp] theorem r_sset {i : Nat} : sSet i a ρ = (a ρ).bs (setD i) := rfl
@[simp] theorem r_ssetF {i : Nat} : sSetF i mf ρ = (mf ρ).bs (setS i) := rfl
@[simp] theorem r_sif {m n : SM} : sIf cb m n ρ = (cb ρ).bs fun k => if k = true then m else n := rfl
@[simp] theorem r_sfor {t : Tg} {b : SM} : sFor t ms b ρ = (ms ρ).bs (forL t b) := rfl
@[simp] theorem r_sasg {t : Tg} : sAsg t a ρ = (a ρ).bs (tgS t) := rfl
@[simp] theorem r_spar {i j : Nat} : sPar i j ms ρ = (ms ρ).bs (parS i j) := rfl
@[simp] theorem r_sexpr : sExpr a ρ = (a ρ).bs fun _ => sNext := rfl
@[simp] theorem r_seq {m n : SM} : sSeq m n ρ = (m ρ).bd n := by
  unfold sSeq RS.bd
  cases m ρ <;> rfl
@[simp] theorem r_next : sNext ρ = .nx ρ := rfl
@[simp] theorem r_op2 : op2 f x y ρ = match deref ρ x, deref ρ y with
  | some a, some b => (match f a b with
    | some d => .ok d ρ
    | none => .no)
  | _, _ => .no := rfl
@[simp] theorem r_op1' {f : D → Option D} : op1 f x ρ = match deref ρ x with
  | some a => (match f a with
    | some d => .ok d ρ
    | none => .no)
  | _ => .no := rfl
@[simp] theorem r_opN {f : List D → Option D} {xs : List D} : opN f xs ρ = match derefs ρ xs with
  | some as => (match f as with
    | some d => .ok d ρ
    | none => .no)
  | none => .no := rfl
@[simp] theorem r_asB : asB (.bl k) ρ = .ok k ρ := rfl
@[simp] theorem de_non : deref ρ .non = some .non := rfl
@[simp] theorem de_bl {b : Bool} : deref ρ (.bl b) = some (.bl b) := rfl
@[simp] theorem de_int {i : Int} : deref ρ (.int i) = some (.int i) := rfl
@[simp] theorem de_str {x : PySem.Str} : deref ρ (.str x) = some (.str x) := rfl
@[simp] theorem de_tup {l : List D} : deref ρ (.tup l) = some (.tup l) := rfl
@[simp] theorem de_lst {l : List D} : deref ρ (.lst l) = some (.lst l) := rfl
@[simp] theorem de_dct {l m : List D} : deref ρ (.dct l m) = some (.dct l m) := rfl
@[simp] theorem de_kd {l m : List D} : deref ρ (.kd l m) = some (.kd l m) := rfl
@[simp] theorem de_scr {l : List D} : deref ρ (.scr l) = some (.scr l) := rfl
@[simp] theorem de_sl {i : Nat} {sl : List S} {st : List D} : deref ⟨sl, st⟩ (.sl i) = match sl[i]? with
    | some (.own d) => some d
    | some (.lent d) => some d
    | _ => none := rfl
@[simp] theorem de_loc {i : Nat} {sl : List S} {st : List D} : deref ⟨sl, st⟩ (.loc i) = st[i]? := rfl
@[simp] theorem des_nil : derefs ρ [] = some [] := rfl
@[simp] theorem des_cons {ds : List D} : derefs ρ (d :: ds) = match deref ρ d, derefs ρ ds with
    | some a, some as => some (a :: as)
    | _, _ => none := rfl
@[simp] theorem pl_non : D.non.plain = true := rfl
@[simp] theorem pl_bl {b : Bool} : (D.bl b).plain = true := rfl
@[simp] theorem pl_int {i : Int} : (D.int i).plain = true := rfl
@[simp] theorem pl_str {i : PySem.Str} : (D.str i).plain = true := rfl
@[simp] theorem pl_tup {i : List D} : (D.tup i).plain = true := rfl
@[simp] theorem pl_lst {i : List D} : (D.lst i).plain = true := rfl
@[simp] theorem pl_dct {i j : List D} : (D.dct i j).plain = true := rfl
@[simp] theorem pl_kd {i j : List D} : (D.kd i j).plain = true := rfl
@[simp] theorem pl_scr {i : List D} : (D.scr i).plain = true := rfl
@[simp] theorem pl_loc {i : Nat} : (D.loc i).plain = true := rfl
@[simp] theorem r_setD {i : Nat} : setD i d ρ = if d.plain = true then .nx (ρ.set i (.val d)) else .no := rfl
@[simp] theorem r_setSv {i : Nat} : setS i (.val d) ρ = .nx (ρ.set i (.val d)) := rfl
@[simp] theorem r_setSo {i : Nat} : setS i (.own d) ρ = .nx (ρ.set i (.own d)) := rfl
@[simp] theorem r_unSv : unS (.val d) ρ = .ok d ρ := rfl
@[simp] theorem r_mkTup {ds : List D} : mkTup ds ρ = if (ds.all D.plain && decide (ds.length ≤ 1000)) = true then .ok (.tup ds) ρ else .no := rfl
@[simp] theorem r_mkLst {ds : List D} : mkLst ds ρ = if (ds.all D.plain && decide (ds.length ≤ 1000)) = true then .ok (.lst ds) ρ else .no := rfl
@[simp] theorem r_mkLstF {ds : List D} : mkLstF ds ρ = if (ds.all D.plain && decide (ds.length ≤ 1000)) = true then .ok (.own (.lst ds)) ρ else .no := rfl
@[simp] theorem r_truth : truth x ρ = match deref ρ x with
  | some d => (match truthD d with
    | some b => .ok b ρ
    | none => .no)
  | none => .no := rfl
@[simp] theorem tr_non : truthD .non = some false := rfl
@[simp] theorem tr_bl {b : Bool} : truthD (.bl b) = some b := rfl
@[simp] theorem tr_int {i : Int} : truthD (.int i) = some (i != 0) := rfl
@[simp] theorem tr_lst {l : List D} : truthD (.lst l) = some (!l.isEmpty) := rfl
@[simp] theorem tr_tup {l : List D} : truthD (.tup l) = some (!l.isEmpty) := rfl
@[simp] theorem f_addi {i j : Int} : addD (.int i) (.int j) = some (.int (i + j)) := rfl
@[simp] theorem f_adds {i j : PySem.Str} : addD (.str i) (.str j) = if i.length + j.length ≤ 16777216 then some (.str (i ++ j)) else none := rfl
@[simp] theorem f_addl {i j : List D} : addD (.lst i) (.lst j) = if i.length + j.length ≤ 16777216 then some (.lst (i ++ j)) else none := rfl
@[simp] theorem f_addt {i j : List D} : addD (.tup i) (.tup j) = if i.length + j.length ≤ 16777216 then some (.tup (i ++ j)) else none := rfl
@[simp] theorem f_subi {i j : Int} : subD (.int i) (.int j) = some (.int (i - j)) := rfl
@[simp] theorem f_muli {i j : Int} : mulD (.int i) (.int j) = if (-18446744073709551616 < i ∧ i < 18446744073709551616) ∨ (-18446744073709551616 < j ∧ j < 18446744073709551616) then some (.int (i * j)) else none := rfl
@[simp] theorem f_modi {i j : Int} : modD (.int i) (.int j) = if 0 < j then some (.int (i % j)) else none := rfl
@[simp] theorem f_fdivi {i j : Int} : fdivD (.int i) (.int j) = if 0 < j ∧ j < 1073741824 then some (.int (i / j)) else none := rfl
@[simp] theorem f_powi {i j : Int} : powD (.int i) (.int j) = if 0 ≤ j ∧ j ≤ 1000 ∧ i.natAbs < 1000000 then some (.int (i ^ j.toNat)) else none := rfl
@[simp] theorem f_lti {i j : Int} : ltD (.int i) (.int j) = some (.bl (decide (i < j))) := rfl
@[simp] theorem f_lei {i j : Int} : leD (.int i) (.int j) = some (.bl (decide (i ≤ j))) := rfl
@[simp] theorem f_gti {i j : Int} : gtD (.int i) (.int j) = some (.bl (decide (j < i))) := rfl
@[simp] theorem f_gei {i j : Int} : geD (.int i) (.int j) = some (.bl (decide (j ≤ i))) := rfl
@[simp] theorem f_negi {i : Int} : negD (.int i) = some (.int (-i)) := rfl
@[simp] theorem f_inti {i : Int} : intD [.int i] = some (.int i) := rfl
@[simp] theorem f_intb {b : Bool} : intD [.bl b] = some (.int (if b then 1 else 0)) := rfl
@[simp] theorem f_ixl {l : List D} {i : Int} : ixD (.lst l) (.int i) = atD l i := rfl
@[simp] theorem f_ixt {l : List D} {i : Int} : ixD (.tup l) (.int i) = atD l i := rfl
@[simp] theorem r_app {i : Nat} {sl : List S} {st : List D} : appS i a ⟨sl, st⟩ = match sl[i]? with
  | some (.own (.lst _)) => (a ⟨sl, st⟩).bs fun d ρ1 => (match ρ1.sl[i]? with
      | some (.own (.lst l)) => if d.plain && decide (l.length < 16777216) then .nx (ρ1.set i (.own (.lst (l ++ [d])))) else .no
      | _ => .no)
  | _ => .no := by
  unfold appS R.bs
  dsimp only
  rcases sl[i]? with _ | (_ | d | d | d)
  · rfl
  · rfl
  · rfl
  · cases d <;> first | rfl | (cases a ⟨sl, st⟩ <;> rfl)
  · rfl
@[simp] theorem r_callM {np : Nat} {f : Fn} {ds : List D} {sl : List S} {st : List D} : callM np f ds ⟨sl, st⟩ = if ds.all D.plain && decide (ds.length = np) then (match f ds st with
  | .ok s st' => .ok s ⟨sl, st'⟩
  | .ex x st' => .ex x ⟨sl, st'⟩
  | .no => .no) else .no := by
  unfold callM
  cases f ds st <;> rfl
@[simp] theorem r_inB {sl : List S} {st : List D} {vs : List Nat} : E.inB ⟨sl, st⟩ vs = ⟨wipeS (sl.map lend) vs, st⟩ := rfl
@[simp] theorem wipe_nil' {sl : List S} : wipeS sl [] = sl := rfl
@[simp] theorem wipe_cons' {sl : List S} {i : Nat} {r : List Nat} : wipeS sl (i :: r) = (wipeS sl r).set i .un := rfl
@[simp] theorem lend_v : lend (.val d) = .val d := rfl
@[simp] theorem lend_u : lend .un = .un := rfl
@[simp] theorem lend_o : lend (.own d) = .lent d := rfl
@[simp] theorem lend_l : lend (.lent d) = .lent d := rfl
@[simp] theorem retD_v {i : Nat} {sl : List S} {st : List D} : retD (.sl i) ⟨sl, st⟩ = match sl[i]? with
    | some (.own d) => .rt (.own d) ⟨sl.set i .un, st⟩
    | _ => .no := rfl
@[simp] theorem retD_non : retD .non ρ = .rt (.val .non) ρ := rfl
@[simp] theorem retD_bl {b : Bool} : retD (.bl b) ρ = .rt (.val (.bl b)) ρ := rfl
@[simp] theorem retD_int {i : Int} : retD (.int i) ρ = .rt (.val (.int i)) ρ := rfl
@[simp] theorem retD_str {i : PySem.Str} : retD (.str i) ρ = .rt (.val (.str i)) ρ := rfl
@[simp] theorem retD_tup {l : List D} : retD (.tup l) ρ = .rt (.val (.tup l)) ρ := rfl
@[simp] theorem retD_lst {l : List D} : retD (.lst l) ρ = .rt (.val (.lst l)) ρ := rfl
@[simp] theorem tg_sl {i : Nat} : Tg.set (.sl i) d ρ = if d.plain then some (ρ.set i (.val d)) else none := rfl
@[simp] theorem r_turn {t : Tg} {vs : List Nat} {ρ : E} : turn t vs cb a d ρ = match t.set d (ρ.inB vs) with
  | none => .no
  | some ρ1 => (cb ρ1).bn fun k ρ2 => if k = true then (a ρ2).bn fun y ρ3 => (if y.plain then .ok (some y) ⟨ρ.sl, ρ3.st⟩ else .no) else .ok none ⟨ρ.sl, ρ2.st⟩ := by
  unfold turn R.bn
  cases t.set d (ρ.inB vs) with
  | none => rfl
  | some ρ1 =>
    dsimp only
    cases cb ρ1 with
    | ok k ρ2 =>
      cases k with
      | true => dsimp only; cases a ρ2 <;> rfl
      | false => rfl
    | ex _ _ => rfl
    | no => rfl

@[simp] theorem r_unSo : unS (.own d) ρ = .ok d ρ := rfl
@[simp] theorem f_lenl {l : List D} : lenD [.lst l] = some (.int l.length) := rfl
@[simp] theorem f_lent {l : List D} : lenD [.tup l] = some (.int l.length) := rfl
@[simp] theorem f_lenr {l : List D} : lenD [.scr l] = some (.int l.length) := rfl
@[simp] theorem f_lens {x : PySem.Str} : lenD [.str x] = if x.length ≤ 16777216 then some (.int x.length) else none := rfl
@[simp] theorem f_eqi {i j : Int} : eqF (.int i) (.int j) = some (.bl (i == j)) := by unfold eqF depOk eqD; rfl
@[simp] theorem f_eqs {i j : PySem.Str} : eqF (.str i) (.str j) = some (.bl (i == j)) := by unfold eqF depOk eqD; rfl
@[simp] theorem f_nei {i j : Int} : neF (.int i) (.int j) = some (.bl (!(i == j))) := by unfold neF depOk eqD; rfl
@[simp] theorem f_nes {i j : PySem.Str} : neF (.str i) (.str j) = some (.bl (!(i == j))) := by unfold neF depOk eqD; rfl
@[simp] theorem r_asI {i : Int} : asI (.int i) ρ = .ok (some i) ρ := rfl
@[simp] theorem r_opM {f : D → List D → Option D} {xs : List D} : opM f x xs ρ = match deref ρ x, derefs ρ xs with
  | some a, some as => (match f a as with
    | some d => .ok d ρ
    | none => .no)
  | _, _ => .no := rfl
@[simp] theorem r_kindOk {T : String} : kindOk T x ρ = match deref ρ x with
  | some d => if tyD T d then .ok () ρ else .no
  | none => .no := rfl
@[simp] theorem ty_str {T : String} {x : PySem.Str} : tyD T (.str x) = (T == "str") := rfl
@[simp] theorem ty_lst {T : String} {x : List D} : tyD T (.lst x) = (T == "list") := rfl
@[simp] theorem ty_dct {T : String} {x y : List D} : tyD T (.dct x y) = (T == "dict") := rfl
@[simp] theorem r_walkl {l : List D} : walkD (.lst l) ρ = .ok l ρ := rfl
@[simp] theorem r_walkt {l : List D} : walkD (.tup l) ρ = .ok l ρ := rfl
@[simp] theorem r_walkr {l : List D} : walkD (.scr l) ρ = .ok l ρ := rfl
@[simp] theorem r_walks {x : PySem.Str} : walkD (.str x) ρ = .ok (chars x) ρ := rfl
@[simp] theorem r_enl {l : List D} : enumD [.lst l] ρ = .ok (enumL 0 l) ρ := rfl
@[simp] theorem r_enr {l : List D} : enumD [.scr l] ρ = .ok (enumL 0 l) ρ := rfl
@[simp] theorem r_zipl {l m : List D} : zipD [.lst l, .lst m] ρ = .ok (zipL l m) ρ := rfl
@[simp] theorem r_zipt {l m : List D} : zipD [.tup l, .tup m] ρ = .ok (zipL l m) ρ := rfl
@[simp] theorem r_enzip {l m : List D} : enzipD [.lst l, .lst m] ρ = .ok (enumL 0 (zipL l m)) ρ := rfl
@[simp] theorem r_slD {x : D} {lo hi : Option Int} : slD x lo hi ρ = match deref ρ x with
  | some (.lst l) => .ok (.lst (cutD l lo hi)) ρ
  | some (.tup l) => .ok (.tup (cutD l lo hi)) ρ
  | some (.scr l) => .ok (.lst (cutD l lo hi)) ρ
  | some (.str x) => if x.length ≤ 16777216 then .ok (.str (L2.cutS x lo hi)) ρ else .no
  | _ => .no := rfl
@[simp] theorem f_listl {l : List D} : listD [.lst l] = some (.lst l) := rfl
@[simp] theorem f_listt {l : List D} : listD [.tup l] = some (.lst l) := rfl
@[simp] theorem f_tupl {l : List D} : tupleD [.lst l] = some (.tup l) := rfl
@[simp] theorem f_tupt {l : List D} : tupleD [.tup l] = some (.tup l) := rfl
@[simp] theorem r_pairs0 : pairsM [] ρ = .ok [] ρ := rfl
@[simp] theorem r_pairs1 {l : List (M D × M D)} : pairsM ((a, b) :: l) ρ = (a ρ).bd fun k ρ1 => (b ρ1).bd fun v ρ2 => (pairsM l ρ2).bd fun r ρ3 => .ok ((k, v) :: r) ρ3 := rfl
@[simp] theorem r_disp {l : List (M D × M D)} {sl : List S} {st : List D} : dispS l ⟨sl, st⟩ = (pairsM l ⟨sl.map lend, st⟩).bn fun ps ρ1 => if ps.all (fun p => (keyD p.1).isSome && p.2.plain) && decide (ps.length ≤ 15) then .ok (.own (.dct (dctMerge [] [] ps).1 (dctMerge [] [] ps).2)) ⟨sl, ρ1.st⟩ else .no := by
  unfold dispS R.bn
  dsimp only
  cases pairsM l ⟨sl.map lend, st⟩ <;> rfl
@[simp] theorem ky_int {i : Int} : keyD (.int i) = some (.inl i) := rfl
@[simp] theorem ky_str {i : PySem.Str} : keyD (.str i) = some (.inr i) := rfl
@[simp] theorem r_tgS {t : Tg} : tgS t d ρ = match t.set d ρ with
  | some ρ' => .nx ρ'
  | none => .no := rfl
@[simp] theorem tg_unp {l : List Tg} {ds : List D} : Tg.set (.unp l) (.tup ds) ρ = if l.length = ds.length then Tg.sets l ds ρ else none := rfl
@[simp] theorem tg_s0 : Tg.sets [] [] ρ = some ρ := rfl
@[simp] theorem tg_s1 {t : Tg} {l : List Tg} {ds : List D} : Tg.sets (t :: l) (d :: ds) ρ = match t.set d ρ with
    | some ρ' => Tg.sets l ds ρ'
    | none => none := rfl
@[simp] theorem r_par : parS i j [x, y] ρ = if x.plain && y.plain then .nx ((ρ.set i (.val x)).set j (.val y)) else .no := rfl
@[simp] theorem r_par3 {i j l : Nat} {x y z : D} : par3S i j l [x, y, z] ρ = if x.plain && y.plain && z.plain then .nx (((ρ.set i (.val x)).set j (.val y)).set l (.val z)) else .no := rfl
@[simp] theorem r_aug {i : Nat} {sl : List S} {st : List D} : augS i a ⟨sl, st⟩ = match sl[i]? with
  | some (.val _) => (a ⟨sl, st⟩).bs fun y ρ1 => (match ρ1.sl[i]?, deref ρ1 y with
    | some (.val x), some b => (match iaddD x b with
      | some d => .nx (ρ1.set i (.val d))
      | none => .no)
    | _, _ => .no)
  | some (.own _) => (a ⟨sl, st⟩).bs fun y ρ1 => (match ρ1.sl[i]?, deref ρ1 y with
    | some (.own (.lst l)), some (.lst m) => if l.length + m.length ≤ 16777216 then .nx (ρ1.set i (.own (.lst (l ++ m)))) else .no
    | _, _ => .no)
  | _ => .no := rfl
@[simp] theorem f_iaddi {i j : Int} : iaddD (.int i) (.int j) = some (.int (i + j)) := rfl
@[simp] theorem f_iadds {i j : PySem.Str} : iaddD (.str i) (.str j) = if i.length + j.length ≤ 16777216 then some (.str (i ++ j)) else none := rfl
@[simp] theorem r_frz {i : Nat} {m : SM} {sl : List S} {st : List D} : sFrz i m ⟨sl, st⟩ = match sl[i]? with
  | some (.own d) => m ⟨sl.set i (.val d), st⟩
  | some (.val _) => m ⟨sl, st⟩
  | some .un => m ⟨sl, st⟩
  | _ => .no := by
  unfold sFrz frz
  dsimp only
  rcases sl[i]? with _ | (_ | d | d | d) <;> rfl
@[simp] theorem r_asg2 {t u : Tg} : sAsg2 t u a ρ = (a ρ).bs fun d => sSeq (tgS t d) (tgS u d) := rfl
@[simp] theorem e_set {i : Nat} {s : S} {sl : List S} {st : List D} : E.set ⟨sl, st⟩ i s = ⟨sl.set i s, st⟩ := rfl
@[simp] theorem e_cell {n : Nat} {sl : List S} {st : List D} : E.cell ⟨sl, st⟩ n d = ⟨sl, st.set n d⟩ := rfl
@[simp] theorem r_call0 {f : Fn} {sl : List S} {st : List D} : callM0 f ⟨sl, st⟩ = match f [] st with
  | .ok s st' => .ok s ⟨sl, st'⟩
  | _ => .no := rfl
end
end BZ
end
section
set_option Elab.async false
set_option linter.all false
set_option maxRecDepth 100000
set_option maxHeartbeats 4000000
namespace BZ
section
variable {ma mb : M D} {ρ ρ1 ρ2 : E} {x y d : D}
theorem app_ok {i : Nat} {l0 l : List D} (h0 : ρ.sl[i]? = some (.own (.lst l0))) (hm : ma ρ = .ok d ρ1) (h1 : ρ1.sl[i]? = some (.own (.lst l))) (hp : d.plain = true) (hl : l.length < 16777216) : appS i ma ρ = .nx (ρ1.set i (.own (.lst (l ++ [d])))) := by
  unfold appS
  rw [h0]
  dsimp only
  rw [hm]
  dsimp only
  rw [h1]
  dsimp only
  rw [if_pos (by rw [hp, decide_eq_true hl]; rfl)]
theorem mul_l {i j : Int} (h1 : -big64 < i) (h2 : i < big64) : mulD (.int i) (.int j) = some (.int (i * j)) := if_pos (Or.inl ⟨h1, h2⟩)
theorem mul_r {i j : Int} (h1 : -big64 < j) (h2 : j < big64) : mulD (.int i) (.int j) = some (.int (i * j)) := if_pos (Or.inr ⟨h1, h2⟩)
theorem mod_p {i j : Int} (h1 : 0 < j) : modD (.int i) (.int j) = some (.int (i % j)) := if_pos h1
theorem fdiv_p {i j : Int} (h1 : 0 < j) (h2 : j < 1073741824) : fdivD (.int i) (.int j) = some (.int (i / j)) := if_pos ⟨h1, h2⟩
theorem add_lst {l m : List D} (h : l.length + m.length ≤ 16777216) : addD (.lst l) (.lst m) = some (.lst (l ++ m)) := if_pos h
end
end BZ
namespace BZ.k01
open BZ
abbrev dSl (c N : Int) (is : List Int) (s5 s6 : S) : List S := [.val (.int c), .val (.int 1000003), .val (.int 6), .val (.int N), .own (.lst (is.map .int)), s5, s6]
theorem drawsA (c N k : Int) (is : List Int) (s6 : S) (st : List D) (h : is.length < 10) : ∃ N' i,
    (sSeq (appS 4 (eBin modD (eFn intD (aCons (rd 3) (aNil))) (rd 1))) (sSet 3 (eBin fdivD (rd 3) (rd 1)))) ⟨dSl c N is (.val (.int k)) s6, st⟩ = .nx ⟨dSl c N' (is ++ [i]) (.val (.int k)) s6, st⟩ := by
  have h2 : is.length < 16777216 := by omega
  simp [h2]
theorem drawsB (c N k : Int) (is : List Int) (s6 : S) (st : List D) (h : is.length < 10) : ∃ i s6',
    (sSeq (sSet 6 (eBin modD (eFn intD (aCons (eBin mulD (eBin addD (eBin addD (rd 3) (eBin mulD (ret (.int 7)) (rd 5))) (ret (.int 1))) (ret (.int 48271))) (aNil))) (ret (.int 2147483647))))
 (sSeq (sSet 6 (eBin modD (eFn intD (aCons (eBin addD (eBin mulD (rd 6) (ret (.int 69621))) (eBin mulD (ret (.int 31)) (rd 5))) (aNil))) (ret (.int 2147483629))))
 (appS 4 (eBin modD (eFn intD (aCons (eBin fdivD (rd 6) (ret (.int 7))) (aNil))) (rd 1))))) ⟨dSl c N is (.val (.int k)) s6, st⟩ = .nx ⟨dSl c N (is ++ [i]) (.val (.int k)) s6', st⟩ := by
  have h2 : is.length < 16777216 := by omega
  simp [h2]
theorem draws_ok (c : Int) (st : List D) : ∃ is : List Int, f__law_draws [.int c, .int 1000003, .int 6] st = .ok (.own (.lst (is.map D.int))) st ∧ is.length = 6 := by
  have hN : ∃ N : Int, (sIf (tCmp ltD (rd 3) (ret (.int 0))) (sSet 3 (eBin subD (eBin subD (ret (.int 0)) (ret (.int 1))) (rd 3))) (sNext)) ⟨[.val (.int c), .val (.int 1000003), .val (.int 6), .val (.int c), .un, .un, .un], st⟩ = .nx ⟨[.val (.int c), .val (.int 1000003), .val (.int 6), .val (.int N), .un, .un, .un], st⟩ := by
    by_cases h : c < 0 <;> simp [h]
  obtain ⟨N, hN⟩ := hN
  have hr : ∀ ρ : E, (iRng1 (aCons (rd 2) (aNil))) ⟨[.val (.int c), .val (.int 1000003), .val (.int 6), .val (.int N), .own (.lst []), .un, .un], st⟩ = .ok (rgs 0 6) ⟨[.val (.int c), .val (.int 1000003), .val (.int 6), .val (.int N), .own (.lst []), .un, .un], st⟩ := fun _ => rfl
  have hA := for_inv (t := .sl 5) (b := (sSeq (appS 4 (eBin modD (eFn intD (aCons (rd 3) (aNil))) (rd 1))) (sSet 3 (eBin fdivD (rd 3) (rd 1))))) (I := fun k ρ => ∃ N is s5 s6, ρ = ⟨dSl c N is s5 s6, st⟩ ∧ is.length = k) (rgs 0 6) 0 ⟨dSl c N [] .un .un, st⟩ ⟨N, [], .un, .un, rfl, rfl⟩ (fun i d ρ hi ⟨N, is, s5, s6, e, hl⟩ => by
    obtain ⟨hi2, hi3⟩ := List.getElem?_eq_some_iff.mp hi
    have hi2 : i < 6 := hi2
    have hd : ∃ k : Int, d = .int k := by
      have := List.mem_of_getElem? hi
      unfold rgs at this
      obtain ⟨j, _, rfl⟩ := List.mem_map.mp this
      exact ⟨_, rfl⟩
    obtain ⟨k, rfl⟩ := hd
    obtain ⟨N', i', e'⟩ := drawsA c N k is s6 st (by omega)
    subst e
    exact ⟨⟨dSl c N is (.val (.int k)) s6, st⟩, _, rfl, .inl e', N', is ++ [i'], .val (.int k), s6, rfl, by rw [List.length_append, hl]; rfl⟩)
  have hB := for_inv (t := .sl 5) (b := (sSeq (sSet 6 (eBin modD (eFn intD (aCons (eBin mulD (eBin addD (eBin addD (rd 3) (eBin mulD (ret (.int 7)) (rd 5))) (ret (.int 1))) (ret (.int 48271))) (aNil))) (ret (.int 2147483647))))
 (sSeq (sSet 6 (eBin modD (eFn intD (aCons (eBin addD (eBin mulD (rd 6) (ret (.int 69621))) (eBin mulD (ret (.int 31)) (rd 5))) (aNil))) (ret (.int 2147483629))))
 (appS 4 (eBin modD (eFn intD (aCons (eBin fdivD (rd 6) (ret (.int 7))) (aNil))) (rd 1)))))) (I := fun k ρ => ∃ N is s5 s6, ρ = ⟨dSl c N is s5 s6, st⟩ ∧ is.length = k) (rgs 0 6) 0 ⟨dSl c N [] .un .un, st⟩ ⟨N, [], .un, .un, rfl, rfl⟩ (fun i d ρ hi ⟨N, is, s5, s6, e, hl⟩ => by
    obtain ⟨hi2, hi3⟩ := List.getElem?_eq_some_iff.mp hi
    have hi2 : i < 6 := hi2
    have hd : ∃ k : Int, d = .int k := by
      have := List.mem_of_getElem? hi
      unfold rgs at this
      obtain ⟨j, _, rfl⟩ := List.mem_map.mp this
      exact ⟨_, rfl⟩
    obtain ⟨k, rfl⟩ := hd
    obtain ⟨i', s6', e'⟩ := drawsB c N k is s6 st (by omega)
    subst e
    exact ⟨⟨dSl c N is (.val (.int k)) s6, st⟩, _, rfl, .inl e', N, is ++ [i'], .val (.int k), s6', rfl, by rw [List.length_append, hl]; rfl⟩)
  obtain ⟨ρA, eA, NA, isA, s5A, s6A, rfl, lA⟩ := hA
  obtain ⟨ρB, eB, NB, isB, s5B, s6B, rfl, lB⟩ := hB
  have hC : ∃ k : Bool, (tCmp geD (rd 3) (eBin powD (ret (.int 10)) (ret (.int 18)))) ⟨dSl c N [] .un .un, st⟩ = .ok k ⟨dSl c N [] .un .un, st⟩ :=
    ⟨decide (1000000000000000000 ≤ N), tcmp_ok (f := geD) (x := .int N) (y := .int 1000000000000000000) rfl rfl rfl⟩
  obtain ⟨k, hC⟩ := hC
  have hf : ∀ b, (sFor (.sl 5) (iRng1 (aCons (rd 2) (aNil))) b) ⟨dSl c N [] .un .un, st⟩ = forL (.sl 5) b (rgs 0 6) ⟨dSl c N [] .un .un, st⟩ := fun b => sfor_ok (hr ⟨[], []⟩)
  have h1 : sSet 3 (rd 0) ⟨slots0 7 [.int c, .int 1000003, .int 6], st⟩ = .nx ⟨[.val (.int c), .val (.int 1000003), .val (.int 6), .val (.int c), .un, .un, .un], st⟩ := rfl
  have h2 : sSetF 4 (eLstF (aNil)) ⟨[.val (.int c), .val (.int 1000003), .val (.int 6), .val (.int N), .un, .un, .un], st⟩ = .nx ⟨dSl c N [] .un .un, st⟩ := rfl
  cases k with
  | true =>
    refine ⟨isA, ?_, lA⟩
    unfold f__law_draws
    refine fn_rt (ρ := ⟨[.val (.int c), .val (.int 1000003), .val (.int 6), .val (.int NA), .un, s5A, s6A], st⟩) ?_
    unfold m__law_draws
    rw [seq_nx h1, seq_nx hN, seq_nx h2]
    refine seq_rt ?_
    rw [sif_ok hC, if_pos rfl, seq_nx ((hf _).trans eA)]
    rfl
  | false =>
    refine ⟨isB, ?_, lB⟩
    unfold f__law_draws
    refine fn_rt (ρ := ⟨[.val (.int c), .val (.int 1000003), .val (.int 6), .val (.int NB), .un, s5B, s6B], st⟩) ?_
    unfold m__law_draws
    rw [seq_nx h1, seq_nx hN, seq_nx h2, seq_nx (sif_f hC), seq_nx ((hf _).trans eB)]
    rfl
end BZ.k01
end
section
set_option Elab.async false
set_option linter.all false
set_option maxRecDepth 100000
set_option maxHeartbeats 4000000
namespace BZ.k01
open BZ
abbrev bSl (cs is : List Int) (s2 : S) : List S := [.val (.scr (cs.map .int)), .val (.lst (is.map .int)), s2]
theorem box_turn (cs is : List Int) (c : Int) (st : List D) (hl : is.length ≤ 10000) : ∃ is' : List Int, (sSet 1 (eBin addD (rd 1) (eVal (fCall 3 f__law_draws (aCons (rd 2) (aCons (ret (.int 1000003)) (aCons (ret (.int 6)) (aNil)))))))) ⟨bSl cs is (.val (.int c)), st⟩ = .nx ⟨bSl cs is' (.val (.int c)), st⟩ ∧ is'.length = is.length + 6 := by
  obtain ⟨ds, e, hd⟩ := draws_ok c st
  refine ⟨is ++ ds, ?_, by rw [List.length_append, hd]⟩
  have : is.length + ds.length ≤ 16777216 := by omega
  simp [e, this]
theorem box_ok (cs : List Int) (hc : cs.length ≤ 1000) : ∃ is : List Int, f__law_box [.scr (cs.map .int)] [] = .ok (.own (box (is.map .int) 0)) [] ∧ 0 < is.length ∧ is.length < 1073741824 := by
  have hA := for_inv (t := .sl 2) (b := (sSet 1 (eBin addD (rd 1) (eVal (fCall 3 f__law_draws (aCons (rd 2) (aCons (ret (.int 1000003)) (aCons (ret (.int 6)) (aNil))))))))) (I := fun k ρ => ∃ is s2, ρ = ⟨bSl cs is s2, []⟩ ∧ is.length = 6 * k) (cs.map .int) 0 ⟨bSl cs [] .un, []⟩ ⟨[], .un, rfl, rfl⟩ (fun i d ρ hi ⟨is, s2, e, hl⟩ => by
    obtain ⟨hi2, hi3⟩ := List.getElem?_eq_some_iff.mp hi
    rw [List.length_map] at hi2
    obtain ⟨c, hc, rfl⟩ := List.mem_map.mp (List.mem_of_getElem? hi)
    obtain ⟨is', e', hl'⟩ := box_turn cs is c [] (by omega)
    subst e
    exact ⟨⟨bSl cs is (.val (.int c)), []⟩, _, rfl, .inl e', is', .val (.int c), rfl, by omega⟩)
  obtain ⟨ρ, e, is, s2, rfl, hl⟩ := hA
  rw [List.length_map] at hl
  have h1 : sSet 1 (eLst (aNil)) ⟨slots0 3 [.scr (cs.map .int)], []⟩ = .nx ⟨bSl cs [] .un, []⟩ := rfl
  have h2 : ∀ b, sFor (.sl 2) (iSeq (rd 0)) b ⟨bSl cs [] .un, []⟩ = forL (.sl 2) b (cs.map .int) ⟨bSl cs [] .un, []⟩ := fun b => sfor_ok rfl
  by_cases h0 : is.length = 0
  · have : is = [] := List.length_eq_zero_iff.mp h0
    subst this
    refine ⟨[11, 5, 2, 7, 31, 101, 997], ?_, by decide, by decide⟩
    unfold f__law_box
    refine fn_rt (ρ := ⟨bSl cs [11, 5, 2, 7, 31, 101, 997] s2, []⟩) ?_
    unfold m__law_box
    rw [seq_nx h1, seq_nx ((h2 _).trans e)]
    rfl
  · refine ⟨is, ?_, by omega, by omega⟩
    unfold f__law_box
    refine fn_rt (ρ := ⟨bSl cs is s2, []⟩) ?_
    unfold m__law_box
    rw [seq_nx h1, seq_nx ((h2 _).trans e)]
    have h0' : is ≠ [] := fun e => h0 (by rw [e]; rfl)
    simp [h0']
    rfl
end BZ.k01
end
section
set_option Elab.async false
set_option linter.all false
set_option maxRecDepth 100000
set_option maxHeartbeats 4000000
namespace BZ
theorem atD_nat {l : List D} {i : Nat} (h : i < l.length) : atD l (i : Int) = some l[i] := by
  unfold atD
  have : L2.ixN l.length (i : Int) = some i := by unfold L2.ixN; simp [h]
  rw [this]
  simp [h]
theorem turn_yes {t : Tg} {vs : List Nat} {c : M Bool} {e : M D} {d y : D} {ρ ρ1 ρ2 ρ3 : E} (ht : t.set d (ρ.inB vs) = some ρ1) (hc : c ρ1 = .ok true ρ2) (he : e ρ2 = .ok y ρ3) (hp : y.plain = true) : turn t vs c e d ρ = .ok (some y) { ρ with st := ρ3.st } := by
  unfold turn
  rw [ht]
  dsimp only
  rw [hc]
  dsimp only
  rw [he]
  dsimp only
  rw [if_pos hp]
theorem turn_no {t : Tg} {vs : List Nat} {c : M Bool} {e : M D} {d : D} {ρ ρ1 ρ2 : E} (ht : t.set d (ρ.inB vs) = some ρ1) (hc : c ρ1 = .ok false ρ2) : turn t vs c e d ρ = .ok none { ρ with st := ρ2.st } := by
  unfold turn
  rw [ht]
  dsimp only
  rw [hc]
theorem turn_if {t : Tg} {vs : List Nat} {c : M Bool} {e : M D} {d y : D} {k : Bool} {ρ ρ1 ρ2 ρ3 : E} (ht : t.set d (ρ.inB vs) = some ρ1) (hc : c ρ1 = .ok k ρ2) (he : e ρ2 = .ok y ρ3) (hp : y.plain = true) (h2 : ρ2.st = ρ.st) (h3 : ρ3.st = ρ.st) : turn t vs c e d ρ = .ok (if k then some y else none) ρ := by
  cases k with
  | true => rw [turn_yes ht hc he hp, h3]; rfl
  | false => rw [turn_no ht hc, h2]; rfl
theorem sl_set {i : Nat} {d : D} {ρ : E} (hp : d.plain = true) : Tg.set (.sl i) d ρ = some (ρ.set i (.val d)) := if_pos hp
end BZ
namespace BZ.k01
open BZ
def con : Nat → List D → List D
  | k, a :: b :: r => (if lie a b then [] else [.tup [.int (k : Nat), .int ((k + 1 : Nat) : Int)]]) ++ con (k + 1) (b :: r)
  | _, _ => []
theorem con_cons (k : Nat) (a b : D) (r : List D) : con k (a :: b :: r) = (if lie a b then [] else [.tup [.int (k : Nat), .int ((k + 1 : Nat) : Int)]]) ++ con (k + 1) (b :: r) := rfl
theorem con_depOk : ∀ (l : List D) (k : Nat), ∀ d ∈ con k l, depOk 59 d = true
  | [], _, d, h => by simp [con] at h
  | [a], _, d, h => by simp [con] at h
  | a :: b :: r, k, d, h => by
    unfold con at h
    rcases List.mem_append.mp h with h | h
    · split at h
      · exact absurd h (List.not_mem_nil)
      · rw [List.mem_singleton.mp h]; rfl
    · exact con_depOk (b :: r) (k + 1) d h
theorem con_len : ∀ (l : List D) (k : Nat), (con k l).length ≤ l.length
  | [], _ => by simp [con]
  | [a], _ => by simp [con]
  | a :: b :: r, k => by
    have := con_len (b :: r) (k + 1)
    unfold con
    rw [List.length_append, List.length_cons]
    split <;> simp at * <;> omega
abbrev cB : SM := (sIf (tNot (tTru (eVal (fCall 2 f_may_lie (aCons (rd 3) (aCons (rd 4) (aNil))))))) (appS 1 (eTup (aCons (rd 2) (aCons (eBin addD (rd 2) (ret (.int 1))) (aNil))))) (sNext))
theorem con_loop (ds : List D) (st : List D) : ∀ (l : List D) (k : Nat) (acc : List D) (s2 s3 s4 : S), (∀ d ∈ l, d ∈ names) → acc.length + l.length < 1000 → ∃ s2' s3' s4',
    forL (.unp [(.sl 2), (.unp [(.sl 3), (.sl 4)])]) cB (enumL k (zipL l l.tail)) ⟨[.val (.lst ds), .own (.lst acc), s2, s3, s4], st⟩ = .nx ⟨[.val (.lst ds), .own (.lst (acc ++ con k l)), s2', s3', s4'], st⟩
  | [], k, acc, s2, s3, s4, _, _ => ⟨s2, s3, s4, by simp [con, zipL, enumL, forL, sNext]⟩
  | [a], k, acc, s2, s3, s4, _, _ => ⟨s2, s3, s4, by simp [con, zipL, enumL, forL, sNext]⟩
  | a :: b :: r, k, acc, s2, s3, s4, hn, hl => by
    have ha := hn a (by simp)
    have hb := hn b (by simp)
    have pa := names_plain a ha
    have pb := names_plain b hb
    have hn' : ∀ d ∈ b :: r, d ∈ names := fun d h => hn d (List.mem_cons_of_mem _ h)
    have e0 : enumL k (zipL (a :: b :: r) (a :: b :: r).tail) = .tup [.int (k : Nat), .tup [a, b]] :: enumL (k + 1) (zipL (b :: r) (b :: r).tail) := rfl
    have hml := may_lie_eq st a ha b hb
    cases hlie : lie a b with
    | true =>
      obtain ⟨s2', s3', s4', ih⟩ := con_loop ds st (b :: r) (k + 1) acc (.val (.int (k : Nat))) (.val a) (.val b) hn' (by simp at *; omega)
      refine ⟨s2', s3', s4', ?_⟩
      rw [e0, forL_cons]
      simp at ih
      simp [pa, pb, hml, hlie, ih, con_cons]
    | false =>
      obtain ⟨s2', s3', s4', ih⟩ := con_loop ds st (b :: r) (k + 1) (acc ++ [.tup [.int (k : Nat), .int ((k + 1 : Nat) : Int)]]) (.val (.int (k : Nat))) (.val a) (.val b) hn' (by simp at *; omega)
      refine ⟨s2', s3', s4', ?_⟩
      rw [e0, forL_cons]
      have hl3 : acc.length < 16777216 := by simp at hl; omega
      simp at ih
      simp [pa, pb, hml, hlie, ih, con_cons, hl3]
theorem contrasts_eq (ds : List D) (hd : ∀ d ∈ ds, d ∈ names) (hl : ds.length < 500) (st : List D) : f_contrasts [.lst ds] st = .ok (.own (.lst (con 0 ds))) st := by
  obtain ⟨s2, s3, s4, e⟩ := con_loop ds st ds 0 [] .un .un .un hd (by simp; omega)
  unfold f_contrasts
  refine fn_rt (ρ := ⟨[.val (.lst ds), .un, s2, s3, s4], st⟩) ?_
  unfold m_contrasts
  have hc : cutD ds (some 1) none = ds.tail := by
    cases ds with
    | nil => rfl
    | cons a r =>
      unfold cutD HT.sIx
      simp
  refine (seq_nx (ρ' := ⟨[.val (.lst ds), .own (.lst []), .un, .un, .un], st⟩) rfl).trans ((seq_nx ((sfor_ok (ds := enumL 0 (zipL ds ds.tail)) (ρ1 := ⟨[.val (.lst ds), .own (.lst []), .un, .un, .un], st⟩) ?_).trans e)).trans rfl)
  show enzipD [.lst ds, .lst (cutD ds (some 1) none)] _ = _
  rw [hc]
  rfl
theorem con_range : ∀ (l : List D) (k : Nat), con k l = ((List.range (l.length - 1)).filter fun i => !lie (l.getD i .non) (l.getD (i + 1) .non)).map fun i => .tup [.int ((k + i : Nat) : Int), .int ((k + i + 1 : Nat) : Int)]
  | [], k => rfl
  | [a], k => rfl
  | a :: b :: r, k => by
    have ih := con_range (b :: r) (k + 1)
    unfold con
    rw [ih]
    have e : (a :: b :: r).length - 1 = ((b :: r).length - 1) + 1 := by simp
    rw [e, List.range_succ_eq_map, List.filter_cons]
    have e2 : ∀ n, ((List.map Nat.succ (List.range n)).filter fun i => !lie ((a :: b :: r).getD i .non) ((a :: b :: r).getD (i + 1) .non)).map (fun i => D.tup [.int ((k + i : Nat) : Int), .int ((k + i + 1 : Nat) : Int)]) = ((List.range n).filter fun i => !lie ((b :: r).getD i .non) ((b :: r).getD (i + 1) .non)).map fun i => .tup [.int ((k + 1 + i : Nat) : Int), .int ((k + 1 + i + 1 : Nat) : Int)] := by
      intro n
      rw [List.filter_map, List.map_map]
      have : (fun i => !lie ((a :: b :: r).getD i .non) ((a :: b :: r).getD (i + 1) .non)) ∘ Nat.succ = fun i => !lie ((b :: r).getD i .non) ((b :: r).getD (i + 1) .non) := rfl
      rw [this]
      refine List.map_congr_left fun i _ => ?_
      show D.tup [.int ((k + (i + 1) : Nat) : Int), .int ((k + (i + 1) + 1 : Nat) : Int)] = _
      rw [show k + (i + 1) = k + 1 + i by omega]
    cases hlie : lie a b with
    | true =>
      have : (!lie ((a :: b :: r).getD 0 .non) ((a :: b :: r).getD (0 + 1) .non)) = false := by show (!lie a b) = false; rw [hlie]; rfl
      rw [this, if_pos rfl, if_neg (by simp), e2]
      rfl
    | false =>
      have : (!lie ((a :: b :: r).getD 0 .non) ((a :: b :: r).getD (0 + 1) .non)) = true := by show (!lie a b) = true; rw [hlie]; rfl
      rw [this, if_neg (by simp), if_pos rfl, List.map_cons, e2]
      rfl
abbrev slJ (x : D) (p q r : D) (ds es : List D) : List S := [.val x, .val (.loc 0), .val (.lst names), .val nV, .val rowsV, .val p, .val q, .val r, .val (.lst ds), .val (.lst es), .un, .un, .un, .un, .un, .un, .un, .un, .un, .un, .un, .un, .un, .un, .un]
theorem law_con (x p q r : D) (ds es : List D) (hd : ∀ d ∈ es, d ∈ names) (hl : es.length < 500) (st : List D) :
    (fLc (.sl 15) [15] (iRng1 (aCons (eBin subD (eFn lenD (aCons (rd 9) (aNil))) (ret (.int 1))) (aNil))) (tNot (tTru (eVal (fCall 2 f__law_lie (aCons (eBin ixD (rd 9) (rd 15)) (aCons (eBin ixD (rd 9) (eBin addD (rd 15) (ret (.int 1)))) (aNil))))))) (eTup (aCons (rd 15) (aCons (eBin addD (rd 15) (ret (.int 1))) (aNil))))) ⟨slJ x p q r ds es, st⟩ = .ok (.own (.lst (con 0 es))) ⟨slJ x p q r ds es, st⟩ := by
  have hr : ((es.length : Int) - 1).toNat = es.length - 1 := by omega
  refine lc_ok (ds := rgs 0 (es.length - 1)) (ρ1 := ⟨slJ x p q r ds es, st⟩) (irng1_ok (xs := [.int ((es.length : Int) - 1)]) (ρ1 := ⟨slJ x p q r ds es, st⟩) (acons_ok rfl anil_ok) ?_) (by simp [rgs]; omega) ?_
  · unfold range1D
    dsimp only
    rw [if_pos (by unfold inB62; rw [decide_eq_true (by omega), decide_eq_true (by omega)]; rfl), hr]
  · rw [con_range]
    have h := comp_map (f := turn (.sl 15) [15] (tNot (tTru (eVal (fCall 2 f__law_lie (aCons (eBin ixD (rd 9) (rd 15)) (aCons (eBin ixD (rd 9) (eBin addD (rd 15) (ret (.int 1)))) (aNil))))))) (eTup (aCons (rd 15) (aCons (eBin addD (rd 15) (ret (.int 1))) (aNil))))) (ρ := ⟨slJ x p q r ds es, st⟩)
      (p := fun d => match d with | .int i => !lie (es.getD i.toNat .non) (es.getD (i.toNat + 1) .non) | _ => false) (g := fun d => match d with | .int i => .tup [.int i, .int (i + 1)] | _ => .non) (rgs 0 (es.length - 1)) fun d hd2 => ?_
    · rw [h]
      unfold rgs
      rw [List.filter_map, List.map_map]
      refine congrArg (fun z => R.ok z _) ?_
      have : ((fun d => match d with | .int i => !lie (es.getD i.toNat .non) (es.getD (i.toNat + 1) .non) | _ => false) ∘ fun (i : Nat) => D.int (0 + (i : Nat))) = fun i => !lie (es.getD i .non) (es.getD (i + 1) .non) := by
        funext i
        show (!lie (es.getD (0 + (i : Int)).toNat .non) (es.getD ((0 + (i : Int)).toNat + 1) .non)) = _
        rw [show (0 + (i : Int)).toNat = i by omega]
      rw [this]
      refine List.map_congr_left fun i _ => ?_
      show D.tup [.int (0 + (i : Int)), .int (0 + (i : Int) + 1)] = _
      rw [show (0 + (i : Int)) = ((0 + i : Nat) : Int) by omega]
      rfl
    · unfold rgs at hd2
      obtain ⟨i, hi, rfl⟩ := List.mem_map.mp hd2
      have hi := List.mem_range.mp hi
      have z : (0 + (i : Int)) = (i : Int) := by omega
      rw [z]
      have h1 : i < es.length := by omega
      have h2 : i + 1 < es.length := by omega
      have g1 : es[i] ∈ names := hd _ (List.getElem_mem h1)
      have g2 : es[i + 1] ∈ names := hd _ (List.getElem_mem h2)
      have q1 := atD_nat h1
      have q2 := atD_nat h2
      rw [show ((i + 1 : Nat) : Int) = (i : Int) + 1 by omega] at q2
      have q3 := law_lie_eq st _ g1 _ g2
      simp [q1, q2, q3, names_plain _ g1, names_plain _ g2, h1, h2]
      cases lie es[i] es[i + 1] <;> simp
theorem l10_ok (x p q r : D) (ds es : List D) (hd : ∀ d ∈ es, d ∈ names) (hl : es.length < 500) (st : List D) : l10 ⟨slJ x p q r ds es, st⟩ = .nx ⟨slJ x p q r ds es, st⟩ := by
  refine sif_f (tcmp_ok (x' := .lst (con 0 es)) (val_ok (s := .own (.lst (con 0 es))) (fcall_ok (ds := [.lst es]) (ρ1 := ⟨slJ x p q r ds es, st⟩) (acons_ok rfl anil_ok) (contrasts_eq es hd hl st))) (val_ok (law_con x p q r ds es hd hl st)) (neF_self (depOk_lst fun d h => con_depOk _ _ d h)))
end BZ.k01
end
section
set_option Elab.async false
set_option linter.all false
set_option maxRecDepth 100000
set_option maxHeartbeats 4000000
namespace BZ
theorem anyEq_names {l : List D} {a : D} : anyEq l a = l.any fun d => eqD d a := rfl
theorem aug_ok {i : Nat} {ma : M D} {ρ ρ1 : E} {y : D} {l0 l m : List D} (h0 : ρ.sl[i]? = some (.own (.lst l0))) (hm : ma ρ = .ok y ρ1) (h1 : ρ1.sl[i]? = some (.own (.lst l))) (hy : deref ρ1 y = some (.lst m)) (hl : l.length + m.length ≤ 16777216) : augS i ma ρ = .nx (ρ1.set i (.own (.lst (l ++ m)))) := by
  unfold augS
  rw [h0]
  dsimp only
  unfold sBind
  rw [hm]
  dsimp only
  rw [h1, hy]
  dsimp only
  rw [if_pos hl]
end BZ
namespace BZ.k01
open BZ
abbrev Row := List D
def okRow (r : Row) : Prop := ∃ r0 z, r = r0 ++ [z] ∧ ∀ d ∈ r, d ∈ names
def lastD (r : Row) : D := r.getLastD .non
def fits (r : Row) (n : D) : Bool := !anyEq r n && lie n (lastD r)
def ext (us : List D) (r : Row) : List Row := (us.filter (fits r)).map fun n => r ++ [n]
def stepR (us : List D) (rows : List Row) : List Row := rows.flatMap (ext us)
theorem okRow_last {r : Row} (h : okRow r) : lastD r ∈ names ∧ 0 < r.length ∧ ixD (.tup r) (.int (-1)) = some (lastD r) := by
  obtain ⟨r0, z, rfl, h⟩ := h
  have e : lastD (r0 ++ [z]) = z := by unfold lastD; simp
  rw [e]
  refine ⟨h z (by simp), by simp, ?_⟩
  show atD (r0 ++ [z]) (-1) = _
  unfold atD L2.ixN
  have : (-1 + ((r0.length : Int) + 1)).toNat = r0.length := by omega
  have h2 : (1 : Int) ≤ (r0.length : Int) + 1 := by omega
  simp [this, h2]
theorem ext_ok {us : List D} {r : Row} (hu : ∀ d ∈ us, d ∈ names) (h : okRow r) : ∀ r' ∈ ext us r, okRow r' := by
  intro r' hr
  obtain ⟨n, hn, rfl⟩ := List.mem_map.mp hr
  have hn2 : n ∈ us := (List.mem_filter.mp hn).1
  obtain ⟨r0, z, e, h⟩ := h
  refine ⟨r, n, rfl, fun d hd => ?_⟩
  rcases List.mem_append.mp hd with hd | hd
  · exact h d hd
  · rw [List.mem_singleton.mp hd]; exact hu n hn2
theorem ext_len {us : List D} {r : Row} : (ext us r).length ≤ us.length := by
  unfold ext
  rw [List.length_map]
  exact List.length_filter_le _ _
theorem step_ok {us : List D} {rows : List Row} (hu : ∀ d ∈ us, d ∈ names) (h : ∀ r ∈ rows, okRow r) : ∀ r ∈ stepR us rows, okRow r := by
  intro r hr
  obtain ⟨r0, h0, h1⟩ := List.mem_flatMap.mp hr
  exact ext_ok hu (h r0 h0) r h1
theorem step_len {us : List D} : ∀ {rows : List Row}, (stepR us rows).length ≤ rows.length * us.length
  | [] => by simp [stepR]
  | r :: rows => by
    have := step_len (us := us) (rows := rows)
    have := ext_len (us := us) (r := r)
    show (ext us r ++ stepR us rows).length ≤ (rows.length + 1) * us.length
    rw [List.length_append, Nat.add_mul]
    omega
theorem step_wid {us : List D} {w : Nat} {rows : List Row} (h : ∀ r ∈ rows, r.length ≤ w) : ∀ r ∈ stepR us rows, r.length ≤ w + 1 := by
  intro r hr
  obtain ⟨r0, h0, h1⟩ := List.mem_flatMap.mp hr
  obtain ⟨n, _, rfl⟩ := List.mem_map.mp h1
  rw [List.length_append]
  have := h r0 h0
  show r0.length + 1 ≤ w + 1
  omega
theorem row_dep {r : Row} (h : okRow r) : depOks 60 r = true := by
  obtain ⟨_, _, _, h⟩ := h
  exact depOks_of fun d hd => names_dep d (h d hd)
theorem row_plain (r : Row) : (D.tup r).plain = true := rfl
theorem notin_row {r : Row} {n : D} (hr : okRow r) (hn : n ∈ names) : notInD n (.tup r) = some (.bl (!anyEq r n)) := by
  have e : notInD n (.tup r) = if depOk 60 n && depOks 60 r then some (.bl (!anyEq r n)) else none := by cases n <;> rfl
  rw [e, names_dep n hn, row_dep hr]
  rfl
theorem deref_name {n : D} (hn : n ∈ names) (ρ : E) : deref ρ n = some n :=
  names_ind (P := fun n => deref ρ n = some n) rfl rfl rfl rfl rfl rfl rfl rfl rfl n hn
/-- [row + (one,) for one in some if one not in row and may_lie(one, row[-1])] -/
theorem ext_comp {c : M Bool} {e : M D} (i k : Nat) (us : List D) (r : Row) (ρ : E) (hul : us.length ≤ 1000) (h5 : rd i ρ = .ok (.lst us) ρ)
    (ht : ∀ n ∈ us, turn (.sl k) [k] c e n ρ = .ok (if fits r n then some (.tup (r ++ [n])) else none) ρ) :
    (fLc (.sl k) [k] (iSeq (rd i)) c e) ρ = .ok (.own (.lst ((ext us r).map .tup))) ρ := by
  refine lc_ok (ds := us) (ρ1 := ρ) (iseq_ok h5 rfl) (by omega) ?_
  have h := comp_map (f := turn (.sl k) [k] c e) (ρ := ρ) (p := fits r) (g := fun n => .tup (r ++ [n])) us ht
  rw [h]
  unfold ext
  rw [List.map_map]
  rfl
end BZ.k01
end
section
set_option Elab.async false
set_option linter.all false
set_option maxRecDepth 100000
set_option maxHeartbeats 4000000
namespace BZ
theorem seq_congr {a a' b : SM} {ρ ρ' : E} (h : a ρ = a' ρ') : sSeq a b ρ = sSeq a' b ρ' := by
  unfold sSeq
  rw [h]
end BZ
namespace BZ.k01
open BZ
abbrev rowsD (l : List Row) : D := .lst (l.map .tup)
def run (us : List D) : Nat → List Row → List Row
  | 0, L => L
  | n + 1, L => if stepR us L = [] then L else run us n (stepR us L)
def runL (us : List D) : Nat → List Row → List Row → List Row
  | 0, _, B => B
  | n + 1, L, B => runL us n (stepR us L) (if stepR us L = [] then B else stepR us L)
theorem runL_nil {us : List D} {B : List Row} : ∀ (n : Nat), runL us n [] B = B
  | 0 => rfl
  | n + 1 => by
    show runL us n (stepR us []) (if stepR us [] = [] then B else stepR us []) = B
    rw [show stepR us [] = [] from rfl, if_pos rfl]
    exact runL_nil n
theorem runL_run {us : List D} : ∀ (n : Nat) (L : List Row), runL us n L L = run us n L
  | 0, _ => rfl
  | n + 1, L => by
    unfold runL run
    by_cases h : stepR us L = []
    · rw [if_pos h, if_pos h, h, runL_nil]
    · rw [if_neg h, if_neg h, runL_run n]
/-- what holds of rows with n steps left -/
structure Good (n : Nat) (L : List Row) : Prop where
  ok : ∀ r ∈ L, okRow r
  len : L.length * 5 ^ n ≤ 10000
  wid : ∃ w, w + n ≤ 100 ∧ ∀ r ∈ L, r.length ≤ w
theorem Good.step {n : Nat} {L : List Row} {us : List D} (hu : ∀ d ∈ us, d ∈ names) (hl : us.length ≤ 5) (g : Good (n + 1) L) : Good n (stepR us L) := by
  obtain ⟨w, h1, h2⟩ := g.wid
  refine ⟨step_ok hu g.ok, ?_, w + 1, by omega, step_wid h2⟩
  have h3 := step_len (us := us) (rows := L)
  have h4 : L.length * us.length ≤ L.length * 5 := Nat.mul_le_mul_left _ hl
  have h5 : (stepR us L).length * 5 ^ n ≤ L.length * 5 * 5 ^ n := Nat.mul_le_mul_right _ (Nat.le_trans h3 h4)
  have h6 := g.len
  rw [Nat.pow_succ, Nat.mul_comm (5 ^ n) 5, ← Nat.mul_assoc] at h6
  omega
theorem Good.le {n : Nat} {L : List Row} (g : Good n L) : L.length ≤ 10000 := by
  have h := g.len
  have : 1 ≤ 5 ^ n := Nat.one_le_pow _ _ (by decide)
  have : L.length * 1 ≤ L.length * 5 ^ n := Nat.mul_le_mul_left _ this
  omega
theorem Good.w {n : Nat} {L : List Row} (g : Good n L) : ∀ r ∈ L, r.length ≤ 1000 := by
  obtain ⟨w, h1, h2⟩ := g.wid
  intro r hr
  have := h2 r hr
  omega
abbrev pS (us : List D) (m : Int) (L F : List Row) (s4 s5 s6 s7 : S) : List S := [.val (.lst us), .val (.int m), .val (rowsD L), .val (rowsD F), s4, s5, s6, s7]
abbrev pComp : M S := fLc (.sl 7) [7] (iSeq (rd 0)) (tAnd (tCmp notInD (rd 7) (rd 6)) (tTru (eVal (fCall 2 f_may_lie (aCons (rd 7) (aCons (eBin ixD (rd 6) (eOp1 negD (ret (.int 1)))) (aNil))))))) (eBin addD (rd 6) (eTup (aCons (rd 7) (aNil))))
theorem p_turn1 (us : List D) (r : Row) (hr : okRow r) (hw : r.length ≤ 1000) (n : D) (hn : n ∈ names) (st : List D) (m : Int) (L F : List Row) (k : Int) (acc : List Row) (s7 : S) :
    turn (.sl 7) [7] (tAnd (tCmp notInD (rd 7) (rd 6)) (tTru (eVal (fCall 2 f_may_lie (aCons (rd 7) (aCons (eBin ixD (rd 6) (eOp1 negD (ret (.int 1)))) (aNil))))))) (eBin addD (rd 6) (eTup (aCons (rd 7) (aNil)))) n ⟨pS us m L F (.val (.int k)) (.own (rowsD acc)) (.val (.tup r)) s7, st⟩ = .ok (if fits r n then some (.tup (r ++ [n])) else none) ⟨pS us m L F (.val (.int k)) (.own (rowsD acc)) (.val (.tup r)) s7, st⟩ := by
  obtain ⟨q1, q2, q3⟩ := okRow_last hr
  have q3 : atD r (-1) = some (lastD r) := q3
  have q4 := may_lie_eq st n hn _ q1
  have q5 := notin_row hr hn
  have q6 : r.length + 1 ≤ 16777216 := by omega
  simp [q3, q4, q5, q6, names_plain n hn, names_plain _ q1, deref_name hn, deref_name q1, fits]
  cases e1 : anyEq r n <;> cases e2 : lie n (lastD r) <;> simp [e1, e2, q3, q4, q5, q6, names_plain n hn, names_plain _ q1, deref_name hn, deref_name q1]
theorem p_inner (us : List D) (hu : ∀ d ∈ us, d ∈ names) (hl : us.length ≤ 5) (m k : Int) (L F : List Row) (st : List D) (s7 : S) : ∀ (rows acc : List Row) (s6 : S), (∀ r ∈ rows, okRow r) → (∀ r ∈ rows, r.length ≤ 1000) → acc.length + 5 * rows.length ≤ 1000000 →
    ∃ s6', forL (.sl 6) (augS 5 (eVal pComp)) (rows.map .tup) ⟨pS us m L F (.val (.int k)) (.own (rowsD acc)) s6 s7, st⟩ = .nx ⟨pS us m L F (.val (.int k)) (.own (rowsD (acc ++ stepR us rows))) s6' s7, st⟩
  | [], acc, s6, _, _, _ => ⟨s6, by simp [stepR, forL, sNext]⟩
  | r :: rows, acc, s6, h, hw, hl2 => by
    have hr := h r (by simp)
    have hx := ext_len (us := us) (r := r)
    obtain ⟨s6', ih⟩ := p_inner us hu hl m k L F st s7 rows (acc ++ ext us r) (.val (.tup r)) (fun r' h' => h r' (List.mem_cons_of_mem _ h')) (fun r' h' => hw r' (List.mem_cons_of_mem _ h')) (by
      rw [List.length_append]
      rw [List.length_cons] at hl2
      omega)
    refine ⟨s6', ?_⟩
    rw [List.map_cons, forL_cons, sl_set (row_plain r)]
    have e : pComp ⟨pS us m L F (.val (.int k)) (.own (rowsD acc)) (.val (.tup r)) s7, st⟩ = .ok (.own (.lst ((ext us r).map .tup))) ⟨pS us m L F (.val (.int k)) (.own (rowsD acc)) (.val (.tup r)) s7, st⟩ :=
      ext_comp 0 7 us r _ (by omega) rfl fun n hn => p_turn1 us r hr (hw r (by simp)) n (hu n hn) st m L F k acc s7
    dsimp only
    have e2 : augS 5 (eVal pComp) ⟨pS us m L F (.val (.int k)) (.own (rowsD acc)) (.val (.tup r)) s7, st⟩ = .nx ⟨pS us m L F (.val (.int k)) (.own (rowsD (acc ++ ext us r))) (.val (.tup r)) s7, st⟩ := by
      refine (aug_ok (l := acc.map .tup) (m := (ext us r).map .tup) rfl (val_ok e) rfl rfl ?_).trans ?_
      · rw [List.length_map, List.length_map]
        rw [List.length_cons] at hl2
        omega
      · rw [← List.map_append]; rfl
    show (match augS 5 (eVal pComp) ⟨pS us m L F (.val (.int k)) (.own (rowsD acc)) (.val (.tup r)) s7, st⟩ with
      | .nx ρ2 => forL _ _ (rows.map .tup) ρ2
      | .ct ρ2 => forL _ _ (rows.map .tup) ρ2
      | .bk ρ2 => .nx ρ2
      | r => r) = _
    rw [e2]
    dsimp only
    rw [ih, List.append_assoc]
    rfl
abbrev pBody : SM := (sSeq (sSetF 5 (eLstF (aNil)))
 (sSeq (sFor (.sl 6) (iSeq (rd 2)) (augS 5 (eVal pComp)))
 (sSeq (sIf (tNot (tTru (rd 5))) (sRet (rd 3)) (sNext))
 (sFrz 5 (sAsg2 (.sl 3) (.sl 2) (rd 5))))))
theorem p_turn (us : List D) (hu : ∀ d ∈ us, d ∈ names) (hl : us.length ≤ 5) (m k : Int) (L : List Row) (n : Nat) (g : Good (n + 1) L) (st : List D) (s5 : S) (s6 s7 : S) : ∃ s6',
    pBody ⟨pS us m L L (.val (.int k)) s5 s6 s7, st⟩ = if stepR us L = [] then .rt (.val (rowsD L)) ⟨pS us m L L (.val (.int k)) (.own (rowsD (stepR us L))) s6' s7, st⟩ else .nx ⟨pS us m (stepR us L) (stepR us L) (.val (.int k)) (.val (rowsD (stepR us L))) s6' s7, st⟩ := by
  obtain ⟨s6', e⟩ := p_inner us hu hl m k L L st s7 L [] s6 g.ok g.w (by have := g.le; simp; omega)
  refine ⟨s6', ?_⟩
  refine (seq_nx (ρ' := ⟨pS us m L L (.val (.int k)) (.own (rowsD [])) s6 s7, st⟩) rfl).trans ((seq_nx ((sfor_ok (ds := L.map .tup) (ρ1 := ⟨pS us m L L (.val (.int k)) (.own (rowsD [])) s6 s7, st⟩) rfl).trans e)).trans ?_)
  rw [List.nil_append]
  have ht : (tNot (tTru (rd 5))) ⟨pS us m L L (.val (.int k)) (.own (rowsD (stepR us L))) s6' s7, st⟩ = .ok (!(!((stepR us L).map D.tup).isEmpty)) ⟨pS us m L L (.val (.int k)) (.own (rowsD (stepR us L))) s6' s7, st⟩ := rfl
  by_cases h : stepR us L = []
  · rw [if_pos h]
    refine seq_rt ((sif_ok ht).trans ?_)
    rw [h]
    rfl
  · rw [if_neg h]
    refine (seq_nx (ρ' := ⟨pS us m L L (.val (.int k)) (.own (rowsD (stepR us L))) s6' s7, st⟩) ((sif_ok ht).trans ?_)).trans rfl
    have : ((stepR us L).map D.tup).isEmpty = false := by
      cases q : stepR us L with
      | nil => exact absurd q h
      | cons _ _ => rfl
    rw [this]
    rfl
theorem p_loop (us : List D) (hu : ∀ d ∈ us, d ∈ names) (hl : us.length ≤ 5) (m : Int) (st : List D) (s7 : S) : ∀ (ks : List Int) (L : List Row) (s4 s5 s6 : S), Good ks.length L →
    ∃ sl', sSeq (forL (.sl 4) pBody (ks.map .int)) (sRet (rd 3)) ⟨pS us m L L s4 s5 s6 s7, st⟩ = .rt (.val (rowsD (run us ks.length L))) ⟨sl', st⟩
  | [], L, s4, s5, s6, g => ⟨_, rfl⟩
  | k :: ks, L, s4, s5, s6, g => by
    obtain ⟨s6', e⟩ := p_turn us hu hl m k L ks.length g st s5 s6 s7
    by_cases h : stepR us L = []
    · rw [if_pos h] at e
      refine ⟨pS us m L L (.val (.int k)) (.own (rowsD (stepR us L))) s6' s7, ?_⟩
      refine (seq_rt (s := .val (rowsD L)) (ρ' := ⟨pS us m L L (.val (.int k)) (.own (rowsD (stepR us L))) s6' s7, st⟩) ?_).trans ?_
      · rw [List.map_cons, forL_cons, sl_set rfl]
        dsimp only
        show (match pBody ⟨pS us m L L (.val (.int k)) s5 s6 s7, st⟩ with
          | .nx ρ2 => forL _ _ (ks.map .int) ρ2
          | .ct ρ2 => forL _ _ (ks.map .int) ρ2
          | .bk ρ2 => .nx ρ2
          | r => r) = _
        rw [e]
      · rw [List.length_cons]
        unfold run
        rw [if_pos h]
    · rw [if_neg h] at e
      obtain ⟨sl', ih⟩ := p_loop us hu hl m st s7 ks (stepR us L) (.val (.int k)) (.val (rowsD (stepR us L))) s6' (g.step hu hl)
      refine ⟨sl', ?_⟩
      rw [List.length_cons]
      unfold run
      rw [if_neg h, ← ih]
      have : forL (.sl 4) pBody ((k :: ks).map .int) ⟨pS us m L L s4 s5 s6 s7, st⟩ = forL (.sl 4) pBody (ks.map .int) ⟨pS us m (stepR us L) (stepR us L) (.val (.int k)) (.val (rowsD (stepR us L))) s6' s7, st⟩ := by
        rw [List.map_cons, forL_cons, sl_set rfl]
        dsimp only
        show (match pBody ⟨pS us m L L (.val (.int k)) s5 s6 s7, st⟩ with
          | .nx ρ2 => forL _ _ (ks.map .int) ρ2
          | .ct ρ2 => forL _ _ (ks.map .int) ρ2
          | .bk ρ2 => .nx ρ2
          | r => r) = _
        rw [e]
      unfold sSeq
      rw [this]
theorem single_good {us : List D} (hu : ∀ d ∈ us, d ∈ names) (hl : us.length ≤ 5) {n : Nat} (hn : n ≤ 3) : Good n (us.map fun u => [u]) := by
  refine ⟨fun r hr => ?_, ?_, 1, by omega, fun r hr => ?_⟩
  · obtain ⟨u, h, rfl⟩ := List.mem_map.mp hr
    exact ⟨[], u, rfl, fun d hd => by rw [List.mem_singleton.mp hd]; exact hu u h⟩
  · rw [List.length_map]
    have : 5 ^ n ≤ 5 ^ 3 := Nat.pow_le_pow_right (by decide) hn
    have := Nat.mul_le_mul hl this
    omega
  · obtain ⟨u, h, rfl⟩ := List.mem_map.mp hr
    exact Nat.le_refl _
/-- [(name,) for name in some] -/
theorem single_comp (i k : Nat) (us : List D) (ρ : E) (σ : D → E) (hu : ∀ d ∈ us, d ∈ names) (hul : us.length ≤ 1000)
    (h1 : ∀ n, (ρ.inB [k]).set k (.val n) = σ n) (h2 : ∀ n, n.plain = true → rd k (σ n) = .ok n (σ n)) (h4 : ∀ n, (σ n).st = ρ.st) (h5 : rd i ρ = .ok (.lst us) ρ) :
    (fLc (.sl k) [k] (iSeq (rd i)) (ret true) (eTup (aCons (rd k) (aNil)))) ρ = .ok (.own (rowsD (us.map fun u => [u]))) ρ := by
  refine lc_ok (ds := us) (ρ1 := ρ) (iseq_ok h5 rfl) (by omega) ?_
  have h := comp_map1 (f := turn (.sl k) [k] (ret true) (eTup (aCons (rd k) (aNil)))) (ρ := ρ) (g := fun n => .tup [n]) us fun n hn => ?_
  · rw [h, List.map_map]; rfl
  · have hp := names_plain n (hu n hn)
    refine (turn_yes (ρ1 := σ n) (ρ2 := σ n) (ρ3 := σ n) (y := .tup [n]) (by rw [sl_set hp, h1 n]) rfl (tup_ok (acons_ok (h2 n hp) anil_ok) ?_) rfl).trans ?_
    · unfold mkTup; simp [hp]
    · rw [h4 n]
theorem range1D_nat' (m : Nat) (hn : m ≤ 1000) (hm : 1 ≤ m) (ρ : E) : range1D [.int ((m : Int) - 1)] ρ = .ok (((List.range (m - 1)).map fun i : Nat => (0 + (i : Int))).map .int) ρ := by
  unfold range1D
  dsimp only
  have h : inB62 ((m : Int) - 1) = true := by
    unfold inB62
    rw [Bool.and_eq_true]
    exact ⟨decide_eq_true (by omega), decide_eq_true (by omega)⟩
  rw [if_pos h, show ((m : Int) - 1).toNat = m - 1 by omega]
  unfold rgs
  rw [List.map_map]
  rfl
theorem longest_ok (us : List D) (hu : ∀ d ∈ us, d ∈ names) (hl : us.length ≤ 5) (m : Nat) (h1 : 1 ≤ m) (h2 : m ≤ 4) (st : List D) : f_longest_rows [.lst us, .int m] st = .ok (.val (rowsD (run us (m - 1) (us.map fun u => [u])))) st := by
  have e1 := single_comp 0 7 us ⟨[.val (.lst us), .val (.int m), .un, .un, .un, .un, .un, .un], st⟩ (fun n => ⟨[.val (.lst us), .val (.int m), .un, .un, .un, .un, .un, .val n], st⟩) hu (by omega) (fun n => rfl) (fun n _ => rfl) (fun n => rfl) rfl
  let ks : List Int := (List.range (m - 1)).map fun i : Nat => (0 + (i : Int))
  have hk : ks.length = m - 1 := by simp [ks]
  obtain ⟨sl', e2⟩ := p_loop us hu hl m st .un ks (us.map fun u => [u]) .un .un .un (by rw [hk]; exact single_good hu hl (by omega))
  rw [hk] at e2
  unfold f_longest_rows
  refine (fn_rt (ρ := ⟨sl', st⟩) ?_)
  unfold m_longest_rows
  have a1 : sSet 2 (eVal (fLc (.sl 7) [7] (iSeq (rd 0)) (ret true) (eTup (aCons (rd 7) (aNil))))) ⟨slots0 8 [.lst us, .int m], st⟩ = .nx ⟨[.val (.lst us), .val (.int m), .val (rowsD (us.map fun u => [u])), .un, .un, .un, .un, .un], st⟩ := (sset_ok (val_ok e1) rfl).trans rfl
  have a2 : sSet 3 (rd 2) ⟨[.val (.lst us), .val (.int m), .val (rowsD (us.map fun u => [u])), .un, .un, .un, .un, .un], st⟩ = .nx ⟨pS us m (us.map fun u => [u]) (us.map fun u => [u]) .un .un .un .un, st⟩ := rfl
  have a3 := range1D_nat' m (by omega) h1 ⟨pS us m (us.map fun u => [u]) (us.map fun u => [u]) .un .un .un .un, st⟩
  have a4 : (sFor (.sl 4) (iRng1 (aCons (eBin subD (rd 1) (ret (.int 1))) (aNil))) pBody) ⟨pS us m (us.map fun u => [u]) (us.map fun u => [u]) .un .un .un .un, st⟩ = forL (.sl 4) pBody (ks.map .int) ⟨pS us m (us.map fun u => [u]) (us.map fun u => [u]) .un .un .un .un, st⟩ := sfor_ok a3
  rw [seq_nx a1, seq_nx a2, ← e2]
  exact seq_congr a4
end BZ.k01
end
section
set_option Elab.async false
set_option linter.all false
set_option maxRecDepth 100000
set_option maxHeartbeats 4000000
namespace BZ.k01
open BZ
/-! ## l15, l16, l17 -/
abbrev lS (x a b w c : D) (ds es us : List D) (m : Int) (L B : List Row) (s15 s16 s17 : S) : List S := [.val x, .val (.loc 0), .val (.lst names), .val nV, .val rowsV, .val a, .val b, .val w, .val (.lst ds), .val (.lst es), .val c, .val (.lst us), .val (.int m), .val (rowsD L), .val (rowsD B), s15, s16, s17, .un, .un, .un, .un, .un, .un, .un]
abbrev lComp : M S := fLc (.sl 23) [23] (iSeq (rd 11)) (tAnd (tCmp notInD (rd 23) (rd 17)) (tTru (eVal (fCall 2 f__law_lie (aCons (rd 23) (aCons (eBin ixD (rd 17) (eOp1 negD (ret (.int 1)))) (aNil))))))) (eBin addD (rd 17) (eTup (aCons (rd 23) (aNil))))
section
variable (x a b w c : D) (ds es us : List D) (m k : Int) (L B : List Row) (st : List D)
theorem l_turn1 (r : Row) (hr : okRow r) (hw : r.length ≤ 1000) (n : D) (hn : n ∈ names) (acc : List Row) :
    turn (.sl 23) [23] (tAnd (tCmp notInD (rd 23) (rd 17)) (tTru (eVal (fCall 2 f__law_lie (aCons (rd 23) (aCons (eBin ixD (rd 17) (eOp1 negD (ret (.int 1)))) (aNil))))))) (eBin addD (rd 17) (eTup (aCons (rd 23) (aNil)))) n ⟨lS x a b w c ds es us m L B (.val (.int k)) (.val (rowsD acc)) (.val (.tup r)), st⟩ = .ok (if fits r n then some (.tup (r ++ [n])) else none) ⟨lS x a b w c ds es us m L B (.val (.int k)) (.val (rowsD acc)) (.val (.tup r)), st⟩ := by
  obtain ⟨q1, q2, q3⟩ := okRow_last hr
  have q3 : atD r (-1) = some (lastD r) := q3
  have q4 := law_lie_eq st n hn _ q1
  have q5 := notin_row hr hn
  have q6 : r.length + 1 ≤ 16777216 := by omega
  simp [q3, q4, q5, q6, names_plain n hn, names_plain _ q1, deref_name hn, deref_name q1, fits]
  cases e1 : anyEq r n <;> cases e2 : lie n (lastD r) <;> simp [e1, e2, q3, q4, q5, q6, names_plain n hn, names_plain _ q1, deref_name hn, deref_name q1]
abbrev lIn : SM := sSet 16 (eBin addD (rd 16) (eVal lComp))
theorem l_inner (hu : ∀ d ∈ us, d ∈ names) (hl : us.length ≤ 5) : ∀ (rows acc : List Row) (s17 : S), (∀ r ∈ rows, okRow r) → (∀ r ∈ rows, r.length ≤ 1000) → acc.length + 5 * rows.length ≤ 1000000 →
    ∃ s17', forL (.sl 17) lIn (rows.map .tup) ⟨lS x a b w c ds es us m L B (.val (.int k)) (.val (rowsD acc)) s17, st⟩ = .nx ⟨lS x a b w c ds es us m L B (.val (.int k)) (.val (rowsD (acc ++ stepR us rows))) s17', st⟩
  | [], acc, s17, _, _, _ => ⟨s17, by simp [stepR, forL, sNext]⟩
  | r :: rows, acc, s17, h, hw, hl2 => by
    have hr := h r (by simp)
    have hx := ext_len (us := us) (r := r)
    rw [List.length_cons] at hl2
    obtain ⟨s17', ih⟩ := l_inner hu hl rows (acc ++ ext us r) (.val (.tup r)) (fun r' h' => h r' (List.mem_cons_of_mem _ h')) (fun r' h' => hw r' (List.mem_cons_of_mem _ h')) (by
      rw [List.length_append]
      omega)
    refine ⟨s17', ?_⟩
    have e : lComp ⟨lS x a b w c ds es us m L B (.val (.int k)) (.val (rowsD acc)) (.val (.tup r)), st⟩ = .ok (.own (.lst ((ext us r).map .tup))) ⟨lS x a b w c ds es us m L B (.val (.int k)) (.val (rowsD acc)) (.val (.tup r)), st⟩ :=
      ext_comp 11 23 us r _ (by omega) rfl fun n hn => l_turn1 x a b w c ds es us m k L B st r hr (hw r (by simp)) n (hu n hn) acc
    have e2 : lIn ⟨lS x a b w c ds es us m L B (.val (.int k)) (.val (rowsD acc)) (.val (.tup r)), st⟩ = .nx ⟨lS x a b w c ds es us m L B (.val (.int k)) (.val (rowsD (acc ++ ext us r))) (.val (.tup r)), st⟩ := by
      refine (sset_ok (bin_ok (f := addD) (x' := .lst (acc.map .tup)) (y' := .lst ((ext us r).map .tup)) (x := .lst (acc.map .tup)) rfl (val_ok e) (add_lst ?_)) rfl).trans ?_
      · rw [List.length_map, List.length_map]
        omega
      · rw [← List.map_append]; rfl
    rw [List.map_cons, forL_cons, sl_set (row_plain r)]
    dsimp only
    show (match lIn ⟨lS x a b w c ds es us m L B (.val (.int k)) (.val (rowsD acc)) (.val (.tup r)), st⟩ with
      | .nx ρ2 => forL _ _ (rows.map .tup) ρ2
      | .ct ρ2 => forL _ _ (rows.map .tup) ρ2
      | .bk ρ2 => .nx ρ2
      | r => r) = _
    rw [e2]
    dsimp only
    rw [ih, List.append_assoc]
    rfl
abbrev lBody : SM := (sSeq (sSet 16 (eLst (aNil)))
 (sSeq (sFor (.sl 17) (iSeq (rd 13)) lIn)
 (sSeq (sSet 13 (rd 16))
 (sSet 14 (eIf (tCmp gtD (eFn lenD (aCons (rd 16) (aNil))) (ret (.int 0))) (rd 16) (rd 14))))))
theorem l_turn (hu : ∀ d ∈ us, d ∈ names) (hl : us.length ≤ 5) (n : Nat) (g : Good (n + 1) L) (s16 s17 : S) : ∃ s17',
    lBody ⟨lS x a b w c ds es us m L B (.val (.int k)) s16 s17, st⟩ = .nx ⟨lS x a b w c ds es us m (stepR us L) (if stepR us L = [] then B else stepR us L) (.val (.int k)) (.val (rowsD (stepR us L))) s17', st⟩ := by
  obtain ⟨s17', e⟩ := l_inner x a b w c ds es us m k L B st hu hl L [] s17 g.ok g.w (by have := g.le; simp; omega)
  refine ⟨s17', ?_⟩
  have a1 : sSet 16 (eLst (aNil)) ⟨lS x a b w c ds es us m L B (.val (.int k)) s16 s17, st⟩ = .nx ⟨lS x a b w c ds es us m L B (.val (.int k)) (.val (rowsD [])) s17, st⟩ := rfl
  have a2 : (sFor (.sl 17) (iSeq (rd 13)) lIn) ⟨lS x a b w c ds es us m L B (.val (.int k)) (.val (rowsD [])) s17, st⟩ = forL (.sl 17) lIn (L.map .tup) ⟨lS x a b w c ds es us m L B (.val (.int k)) (.val (rowsD [])) s17, st⟩ := sfor_ok rfl
  unfold lBody
  rw [seq_nx a1, seq_nx (a2.trans e), List.nil_append]
  by_cases h : stepR us L = []
  · simp [h]
  · have : 0 < (stepR us L).length := List.length_pos_iff.mpr h
    simp [h, this]
theorem l_loop (hu : ∀ d ∈ us, d ∈ names) (hl : us.length ≤ 5) : ∀ (ks : List Int) (L B : List Row) (s15 s16 s17 : S), Good ks.length L →
    ∃ s15' s16' s17' L', forL (.sl 15) lBody (ks.map .int) ⟨lS x a b w c ds es us m L B s15 s16 s17, st⟩ = .nx ⟨lS x a b w c ds es us m L' (runL us ks.length L B) s15' s16' s17', st⟩
  | [], L, B, s15, s16, s17, g => ⟨s15, s16, s17, L, rfl⟩
  | k :: ks, L, B, s15, s16, s17, g => by
    obtain ⟨s17', e⟩ := l_turn x a b w c ds es us m k L B st hu hl ks.length g s16 s17
    obtain ⟨s15'', s16'', s17'', L', ih⟩ := l_loop hu hl ks (stepR us L) (if stepR us L = [] then B else stepR us L) (.val (.int k)) (.val (rowsD (stepR us L))) s17' (g.step hu hl)
    refine ⟨s15'', s16'', s17'', L', ?_⟩
    rw [List.map_cons, forL_cons, sl_set rfl]
    dsimp only
    show (match lBody ⟨lS x a b w c ds es us m L B (.val (.int k)) s16 s17, st⟩ with
      | .nx ρ2 => forL _ _ (ks.map .int) ρ2
      | .ct ρ2 => forL _ _ (ks.map .int) ρ2
      | .bk ρ2 => .nx ρ2
      | r => r) = _
    rw [e]
    exact ih
end
theorem runL_ok {us : List D} (hu : ∀ d ∈ us, d ∈ names) (hl : us.length ≤ 5) : ∀ (n : Nat) (L B : List Row), Good n L → (∀ r ∈ B, okRow r) → ∀ r ∈ runL us n L B, okRow r
  | 0, L, B, g, h => h
  | n + 1, L, B, g, h => by
    unfold runL
    refine runL_ok hu hl n _ _ (g.step hu hl) ?_
    split
    · exact h
    · exact (g.step hu hl).ok
theorem rows_dep {l : List Row} (h : ∀ r ∈ l, okRow r) : depOk 60 (rowsD l) = true := by
  refine depOk_lst fun d hd => ?_
  obtain ⟨r, hr, rfl⟩ := List.mem_map.mp hd
  obtain ⟨_, _, _, h⟩ := h r hr
  exact depOk_tup fun d hd => names_dep d (h d hd)
theorem l15_17 (x a b w c : D) (ds es us : List D) (hu : ∀ d ∈ us, d ∈ names) (hl : us.length ≤ 5) (m : Nat) (h1 : 1 ≤ m) (h2 : m ≤ 4) (st : List D) (K : SM) : ∃ L' B' s15 s16 s17,
    sSeq l15 (sSeq l16 (sSeq l17 K)) ⟨[.val x, .val (.loc 0), .val (.lst names), .val nV, .val rowsV, .val a, .val b, .val w, .val (.lst ds), .val (.lst es), .val c, .val (.lst us), .val (.int m), .un, .un, .un, .un, .un, .un, .un, .un, .un, .un, .un, .un], st⟩ = K ⟨lS x a b w c ds es us m L' B' s15 s16 s17, st⟩ := by
  let U : List Row := us.map fun u => [u]
  let ks : List Int := (List.range (m - 1)).map fun i : Nat => (0 + (i : Int))
  have hk : ks.length = m - 1 := by simp [ks]
  have g : Good ks.length U := by rw [hk]; exact single_good hu hl (by omega)
  obtain ⟨s15, s16, s17, L', e⟩ := l_loop x a b w c ds es us m st hu hl ks U U .un .un .un g
  refine ⟨L', run us (m - 1) U, s15, s16, s17, ?_⟩
  rw [hk, runL_run] at e
  have e1 := single_comp 11 23 us ⟨[.val x, .val (.loc 0), .val (.lst names), .val nV, .val rowsV, .val a, .val b, .val w, .val (.lst ds), .val (.lst es), .val c, .val (.lst us), .val (.int m), .un, .un, .un, .un, .un, .un, .un, .un, .un, .un, .un, .un], st⟩ (fun n => ⟨[.val x, .val (.loc 0), .val (.lst names), .val nV, .val rowsV, .val a, .val b, .val w, .val (.lst ds), .val (.lst es), .val c, .val (.lst us), .val (.int m), .un, .un, .un, .un, .un, .un, .un, .un, .un, .un, .val n, .un], st⟩) hu (by omega) (fun n => rfl) (fun n _ => rfl) (fun n => rfl) rfl
  have a1 : l15 ⟨[.val x, .val (.loc 0), .val (.lst names), .val nV, .val rowsV, .val a, .val b, .val w, .val (.lst ds), .val (.lst es), .val c, .val (.lst us), .val (.int m), .un, .un, .un, .un, .un, .un, .un, .un, .un, .un, .un, .un], st⟩ = .nx ⟨lS x a b w c ds es us m U U .un .un .un, st⟩ :=
    (bind_ok (acons_ok (val_ok e1) (acons_ok (val_ok e1) anil_ok))).trans rfl
  have a3 := range1D_nat' m (by omega) h1 ⟨lS x a b w c ds es us m U U .un .un .un, st⟩
  have a2 : l16 ⟨lS x a b w c ds es us m U U .un .un .un, st⟩ = forL (.sl 15) lBody (ks.map .int) ⟨lS x a b w c ds es us m U U .un .un .un, st⟩ := sfor_ok a3
  rw [seq_nx a1, seq_nx (a2.trans e)]
  have q := longest_ok us hu hl m h1 h2 st
  have hd : depOk 60 (rowsD (run us (m - 1) U)) = true := by
    rw [← runL_run, ← hk]
    exact rows_dep (runL_ok hu hl _ _ _ g g.ok)
  have a4 : l17 ⟨lS x a b w c ds es us m L' (run us (m - 1) U) s15 s16 s17, st⟩ = .nx ⟨lS x a b w c ds es us m L' (run us (m - 1) U) s15 s16 s17, st⟩ :=
    sif_f (tcmp_ok (f := neF) (x := rowsD (run us (m - 1) U)) (y := rowsD (run us (m - 1) U)) (x' := rowsD (run us (m - 1) U)) (y' := rowsD (run us (m - 1) U)) (val_ok (s := .val (rowsD (run us (m - 1) U))) (fcall_ok (ds := [.lst us, .int m]) (ρ1 := ⟨lS x a b w c ds es us m L' (run us (m - 1) U) s15 s16 s17, st⟩) (acons_ok rfl (acons_ok rfl anil_ok)) q)) rfl (neF_self hd) rfl rfl)
  rw [seq_nx a4]
end BZ.k01
end
section
set_option Elab.async false
set_option linter.all false
set_option maxRecDepth 100000
set_option maxHeartbeats 4000000
namespace BZ.k01
open BZ
def sOf : D → PySem.Str
  | .str s => s
  | _ => default
def hL (one : D) (n m : Nat) : List PySem.Str := match f_hatch [one, .int n, .int m] [] with
  | .ok (.own (.lst l)) _ => l.map sOf
  | _ => []
abbrev hV (one : D) (n m : Nat) : D := .lst ((hL one n m).map .str)
theorem hatch_eq {n m : Nat} (h1 : 1 ≤ n) (h2 : n ≤ 5) (h3 : 1 ≤ m) (h4 : m ≤ 4) (st : List D) : ∀ one ∈ names, f_hatch [one, .int n, .int m] st = .ok (.own (hV one n m)) st := by
  obtain rfl | rfl | rfl | rfl | rfl : n = 1 ∨ n = 2 ∨ n = 3 ∨ n = 4 ∨ n = 5 := by omega
  all_goals obtain rfl | rfl | rfl | rfl : m = 1 ∨ m = 2 ∨ m = 3 ∨ m = 4 := by omega
  all_goals (apply names_ind <;> kernel_rfl)
theorem hL_len {n m : Nat} (h1 : 1 ≤ n) (h2 : n ≤ 5) (h3 : 1 ≤ m) (h4 : m ≤ 4) : ∀ one ∈ names, (hL one n m).length = m ∧ ((hL one n m)[0]?.map (·.length)) = some n := by
  obtain rfl | rfl | rfl | rfl | rfl : n = 1 ∨ n = 2 ∨ n = 3 ∨ n = 4 ∨ n = 5 := by omega
  all_goals obtain rfl | rfl | rfl | rfl : m = 1 ∨ m = 2 ∨ m = 3 ∨ m = 4 := by omega
  all_goals (apply names_ind <;> exact ⟨by kernel_rfl, by kernel_rfl⟩)
theorem law_hatch_eq {n m : Nat} (h1 : 1 ≤ n) (h2 : n ≤ 5) (h3 : 1 ≤ m) (h4 : m ≤ 4) (st : List D) : ∀ one ∈ names, f__law_hatch [one, .int n, .int m] st = .ok (.own (hV one n m)) st := by
  obtain rfl | rfl | rfl | rfl | rfl : n = 1 ∨ n = 2 ∨ n = 3 ∨ n = 4 ∨ n = 5 := by omega
  all_goals obtain rfl | rfl | rfl | rfl : m = 1 ∨ m = 2 ∨ m = 3 ∨ m = 4 := by omega
  all_goals (apply names_ind <;> kernel_rfl)
theorem hV_dep (one : D) (n m : Nat) : depOk 60 (hV one n m) = true := by
  refine depOk_lst fun d hd => ?_
  obtain ⟨s, _, rfl⟩ := List.mem_map.mp hd
  rfl
theorem eqF_hV (a b : D) (n m : Nat) : eqF (hV a n m) (hV b n m) = some (.bl (eqD (hV a n m) (hV b n m))) := by
  unfold eqF
  rw [hV_dep, hV_dep]
  rfl
theorem from_hatch_eq {n m : Nat} (h1 : 1 ≤ n) (h2 : n ≤ 5) (h3 : 1 ≤ m) (h4 : m ≤ 4) (st : List D) (one : D) (ho : one ∈ names) : f_from_hatch [hV one n m] st = .ok (.own (.lst (names.filter fun a => eqD (hV a n m) (hV one n m)))) st := by
  obtain ⟨q1, q2⟩ := hL_len h1 h2 h3 h4 one ho
  obtain ⟨s, q3, q4⟩ : ∃ s, (hL one n m)[0]? = some s ∧ s.length = n := by
    cases h : (hL one n m)[0]? with
    | none => rw [h] at q2; cases q2
    | some s => rw [h] at q2; exact ⟨s, rfl, Option.some.inj q2⟩
  have q5 : atD ((hL one n m).map .str) 0 = some (.str s) := by
    have : 0 < ((hL one n m).map D.str).length := by rw [List.length_map, q1]; exact h3
    have z := atD_nat this
    rw [show ((0 : Nat) : Int) = 0 from rfl] at z
    rw [z, ← List.getElem?_eq_getElem]
    · rw [List.getElem?_map, q3]; rfl
  have q6 : ¬ hL one n m = [] := fun e => by rw [e] at q1; simp at q1; omega
  unfold f_from_hatch
  refine fn_rt (ρ := ⟨[.val (hV one n m), .un], st⟩) ?_
  unfold m_from_hatch
  refine (seq_nx (ρ' := ⟨[.val (hV one n m), .un], st⟩) ?_).trans ?_
  · simp [slots0, q6]
  · refine sretF_ok (lc_ok (ds := names) (ρ1 := ⟨[.val (hV one n m), .un], st⟩) rfl (by decide) ?_)
    have h := comp_map (f := turn (.sl 1) [1] (tCmp eqF (eVal (fCall 3 f_hatch (aCons (rd 1) (aCons (eFn lenD (aCons (eBin ixD (rd 0) (ret (.int 0))) (aNil))) (aCons (eFn lenD (aCons (rd 0) (aNil))) (aNil)))))) (eFn listD (aCons (rd 0) (aNil)))) (rd 1)) (ρ := ⟨[.val (hV one n m), .un], st⟩) (p := fun a => eqD (hV a n m) (hV one n m)) (g := id) names fun a ha => ?_
    · rw [h, List.map_id]
    · have e1 := hatch_eq h1 h2 h3 h4 st a ha
      have e2 := eqF_hV a one n m
      have e3 : n ≤ 16777216 := by omega
      have e4 := names_plain a ha
      simp [q1, q4, q5, e1, e2, e3, e4, deref_name ha]
      cases eqD (hV a n m) (hV one n m) <;> simp [e4]
theorem from_nil (st : List D) : f_from_hatch [.lst []] st = .ok (.val (.lst names)) st := by kernel_rfl
theorem hatch_turn {n m : Nat} (h1 : 1 ≤ n) (h2 : n ≤ 5) (h3 : 1 ≤ m) (h4 : m ≤ 4) (x s3 s4 s6 : D) (s7 s8 s9 s10 s11 s12 s13 s14 s15 s16 s17 : S) (st : List D) (one : D) (ho : one ∈ names) :
    fLc (.sl 23) [23] (iSeq (rd 2)) (tCmp eqF (eVal (fCall 3 f__law_hatch (aCons (rd 23) (aCons (rd 18) (aCons (rd 19) (aNil)))))) (rd 20)) (rd 23) ⟨[.val x, .val (.loc 0), .val (.lst names), .val s3, .val s4, .val one, .val s6, s7, s8, s9, s10, s11, s12, s13, s14, s15, s16, s17, .val (.int n), .val (.int m), .val (hV one n m), .un, .un, .un, .un], st⟩ = .ok (.own (.lst (names.filter fun a => eqD (hV a n m) (hV one n m)))) ⟨[.val x, .val (.loc 0), .val (.lst names), .val s3, .val s4, .val one, .val s6, s7, s8, s9, s10, s11, s12, s13, s14, s15, s16, s17, .val (.int n), .val (.int m), .val (hV one n m), .un, .un, .un, .un], st⟩ := by
  refine lc_ok (ds := names) (ρ1 := ⟨[.val x, .val (.loc 0), .val (.lst names), .val s3, .val s4, .val one, .val s6, s7, s8, s9, s10, s11, s12, s13, s14, s15, s16, s17, .val (.int n), .val (.int m), .val (hV one n m), .un, .un, .un, .un], st⟩) rfl (by decide) ?_
  have h := comp_map (f := turn (.sl 23) [23] (tCmp eqF (eVal (fCall 3 f__law_hatch (aCons (rd 23) (aCons (rd 18) (aCons (rd 19) (aNil)))))) (rd 20)) (rd 23)) (ρ := ⟨[.val x, .val (.loc 0), .val (.lst names), .val s3, .val s4, .val one, .val s6, s7, s8, s9, s10, s11, s12, s13, s14, s15, s16, s17, .val (.int n), .val (.int m), .val (hV one n m), .un, .un, .un, .un], st⟩) (p := fun a => eqD (hV a n m) (hV one n m)) (g := id) names fun a ha => ?_
  · rw [h, List.map_id]
  · have e1 := law_hatch_eq h1 h2 h3 h4 st a ha
    have e2 := eqF_hV a one n m
    have e4 := names_plain a ha
    simp [e1, e2, e4, deref_name ha]
    cases eqD (hV a n m) (hV one n m) <;> simp [e4]
theorem l1920 (x s3 s4 s6 : D) (s7 s8 s9 s10 s11 s12 s13 s14 s15 s16 s17 : S) (st : List D) (n m : Nat) (h1 : 1 ≤ n) (h2 : n ≤ 5) (h3 : 1 ≤ m) (h4 : m ≤ 4) (one : D) (ho : one ∈ names) (K : SM) : ∃ d, sSeq l19 (sSeq l20 K) ⟨[.val x, .val (.loc 0), .val (.lst names), .val s3, .val s4, .val one, .val s6, s7, s8, s9, s10, s11, s12, s13, s14, s15, s16, s17, .val (.int n), .val (.int m), .un, .un, .un, .un, .un], st⟩ = K ⟨[.val x, .val (.loc 0), .val (.lst names), .val s3, .val s4, .val one, .val s6, s7, s8, s9, s10, s11, s12, s13, s14, s15, s16, s17, .val (.int n), .val (.int m), .val d, .un, .un, .un, .un], st⟩ := by
  refine ⟨hV one n m, ?_⟩
  have e1 := law_hatch_eq h1 h2 h3 h4 st one ho
  have e2 := hatch_eq h1 h2 h3 h4 st one ho
  have e3 := from_hatch_eq h1 h2 h3 h4 st one ho
  have e4 := names_plain one ho
  have a1 : l19 ⟨[.val x, .val (.loc 0), .val (.lst names), .val s3, .val s4, .val one, .val s6, s7, s8, s9, s10, s11, s12, s13, s14, s15, s16, s17, .val (.int n), .val (.int m), .un, .un, .un, .un, .un], st⟩ = .nx ⟨[.val x, .val (.loc 0), .val (.lst names), .val s3, .val s4, .val one, .val s6, s7, s8, s9, s10, s11, s12, s13, s14, s15, s16, s17, .val (.int n), .val (.int m), .val (hV one n m), .un, .un, .un, .un], st⟩ := by
    simp [e1, e4]
  have g : ∀ d ∈ names.filter (fun a => eqD (hV a n m) (hV one n m)), depOk 60 d = true := fun d hd => names_dep d (List.mem_filter.mp hd).1
  have g2 : ∀ d ∈ names.filter (fun a => eqD (hV a n m) (hV one n m)), depOk 59 d = true := fun d hd => names_dep d (List.mem_filter.mp hd).1
  have e5 : notInD one (.lst (names.filter fun a => eqD (hV a n m) (hV one n m))) = some (.bl false) := by
    have e : notInD one (.lst (names.filter fun a => eqD (hV a n m) (hV one n m))) = if depOk 60 one && depOks 60 (names.filter fun a => eqD (hV a n m) (hV one n m)) then some (.bl (!anyEq (names.filter fun a => eqD (hV a n m) (hV one n m)) one)) else none := by cases one <;> rfl
    have e6 : anyEq (names.filter fun a => eqD (hV a n m) (hV one n m)) one = true := by
      unfold anyEq
      refine List.any_eq_true.mpr ⟨one, List.mem_filter.mpr ⟨ho, eqD_self 60 _ (hV_dep _ _ _)⟩, eqD_self 60 one (names_dep one ho)⟩
    rw [e, names_dep one ho, depOks_of g, e6]
    rfl
  have a2 : l20 ⟨[.val x, .val (.loc 0), .val (.lst names), .val s3, .val s4, .val one, .val s6, s7, s8, s9, s10, s11, s12, s13, s14, s15, s16, s17, .val (.int n), .val (.int m), .val (hV one n m), .un, .un, .un, .un], st⟩ = .nx ⟨[.val x, .val (.loc 0), .val (.lst names), .val s3, .val s4, .val one, .val s6, s7, s8, s9, s10, s11, s12, s13, s14, s15, s16, s17, .val (.int n), .val (.int m), .val (hV one n m), .un, .un, .un, .un], st⟩ := by
    have t := hatch_turn h1 h2 h3 h4 x s3 s4 s6 s7 s8 s9 s10 s11 s12 s13 s14 s15 s16 s17 st one ho
    have t2 := val_ok (d := .lst (names.filter fun a => eqD (hV a n m) (hV one n m))) t
    have u1 : (eVal (fCall 3 f_hatch (aCons (rd 5) (aCons (rd 18) (aCons (rd 19) (aNil)))))) ⟨[.val x, .val (.loc 0), .val (.lst names), .val s3, .val s4, .val one, .val s6, s7, s8, s9, s10, s11, s12, s13, s14, s15, s16, s17, .val (.int n), .val (.int m), .val (hV one n m), .un, .un, .un, .un], st⟩ = .ok (hV one n m) ⟨[.val x, .val (.loc 0), .val (.lst names), .val s3, .val s4, .val one, .val s6, s7, s8, s9, s10, s11, s12, s13, s14, s15, s16, s17, .val (.int n), .val (.int m), .val (hV one n m), .un, .un, .un, .un], st⟩ := by simp [e2, e4]
    have u2 : (eVal (fCall 1 f_from_hatch (aCons (rd 20) (aNil)))) ⟨[.val x, .val (.loc 0), .val (.lst names), .val s3, .val s4, .val one, .val s6, s7, s8, s9, s10, s11, s12, s13, s14, s15, s16, s17, .val (.int n), .val (.int m), .val (hV one n m), .un, .un, .un, .un], st⟩ = .ok (.lst (names.filter fun a => eqD (hV a n m) (hV one n m))) ⟨[.val x, .val (.loc 0), .val (.lst names), .val s3, .val s4, .val one, .val s6, s7, s8, s9, s10, s11, s12, s13, s14, s15, s16, s17, .val (.int n), .val (.int m), .val (hV one n m), .un, .un, .un, .un], st⟩ := by simp [e3]
    have u3 : (eVal (fCall 1 f_from_hatch (aCons (eLst (aNil)) (aNil)))) ⟨[.val x, .val (.loc 0), .val (.lst names), .val s3, .val s4, .val one, .val s6, s7, s8, s9, s10, s11, s12, s13, s14, s15, s16, s17, .val (.int n), .val (.int m), .val (hV one n m), .un, .un, .un, .un], st⟩ = .ok (.lst names) ⟨[.val x, .val (.loc 0), .val (.lst names), .val s3, .val s4, .val one, .val s6, s7, s8, s9, s10, s11, s12, s13, s14, s15, s16, s17, .val (.int n), .val (.int m), .val (hV one n m), .un, .un, .un, .un], st⟩ := by simp [from_nil]
    refine sif_f (tor_f (tcmp_ok (f := neF) u1 rfl (neF_self (hV_dep one n m))) (tor_f (tcmp_ok (f := neF) u2 t2 (neF_self (depOk_lst g2))) (tor_f (tcmp_ok (f := notInD) (x := one) rfl u2 e5 (deref_name ho _)) (tcmp_ok (f := neF) u3 rfl (neF_self (depOk_lst (n := 59) fun d h => names_dep d h))))))
  rw [seq_nx a1, seq_nx a2]
end BZ.k01
end
section
set_option Elab.async false
set_option linter.all false
set_option maxRecDepth 100000
set_option maxHeartbeats 4000000
namespace BZ
theorem seq_assoc {a b c : SM} {ρ : E} : sSeq a (sSeq b c) ρ = sSeq (sSeq a b) c ρ := by
  unfold sSeq
  cases a ρ <;> rfl
theorem seq_assocF {a b c : SM} : sSeq a (sSeq b c) = sSeq (sSeq a b) c := funext fun _ => seq_assoc
theorem seq5 {a b c d e K : SM} {ρ ρ' : E} (h : sSeq a (sSeq b (sSeq c (sSeq d e))) ρ = .nx ρ') : sSeq a (sSeq b (sSeq c (sSeq d (sSeq e K)))) ρ = K ρ' := by
  rw [seq_assocF (a := d), seq_assocF (a := c), seq_assocF (a := b), seq_assocF (a := a), seq_nx h]
end BZ
namespace BZ.k01
open BZ
theorem math (ns : List Int) (hl : ns.length ≤ 63) : ∃ st', f_law [.scr (ns.map .int)] [] = .ok (.val (.bl true)) st' := by
  obtain ⟨is, e1, i1, i2⟩ := box_ok ns (by omega)
  let x : D := .scr (ns.map .int)
  have B0 : Box [box (is.map .int) 0] := ⟨is, 0, rfl, i1, i2⟩
  have a1 : l1 ⟨slots0 25 [x], []⟩ = .nx ⟨.val x :: .own (box (is.map .int) 0) :: un23, []⟩ := (ssetF_own (fcall_ok (ds := [x]) (ρ1 := ⟨slots0 25 [x], []⟩) (acons_ok rfl anil_ok) e1)).trans rfl
  obtain ⟨ds, st7, a7, B7, d7, n7⟩ := l7_ok (x := x) (tl := [.val nV, .val rowsV, .val (.str "vair"), .val (.str "vair"), .val (.bl false), .un, .un, .un, .un, .un, .un, .un, .un, .un, .un, .un, .un, .un, .un, .un, .un, .un]) B0
  have a8 := l8_ok x (.str "vair") (.str "vair") (.bl false) ds d7 (by omega) st7
  obtain ⟨es, st9, a9, B9, d9, n9⟩ := l9_ok (x := x) (tl := [.val nV, .val rowsV, .val (.str "vair"), .val (.str "vair"), .val (.bl false), .val (.lst ds), .un, .un, .un, .un, .un, .un, .un, .un, .un, .un, .un, .un, .un, .un, .un, .un]) B7
  have a10 := l10_ok x (.str "vair") (.str "vair") (.bl false) ds es d9 (by omega) st9
  obtain ⟨a, b, c, st11, a11, B11, ha, hb, hc⟩ := l11_ok (x := x) (tl := [.val nV, .val rowsV, .val (.str "vair"), .val (.str "vair"), .val (.bl false), .val (.lst ds), .val (.lst es), .un, .un, .un, .un, .un, .un, .un, .un, .un, .un, .un, .un, .un, .un, .un]) B9
  have a12 := l12_ok x (.val (.bl false)) ds es st11 a ha b hb c hc
  obtain ⟨us, st13, a13, B13, d13, n13⟩ := l13_ok (x := x) (tl := [.val nV, .val rowsV, .val a, .val b, .val (.bl false), .val (.lst ds), .val (.lst es), .val c, .un, .un, .un, .un, .un, .un, .un, .un, .un, .un, .un, .un, .un, .un]) B11
  obtain ⟨m, st14, a14, B14, m1, m2⟩ := l14_ok (x := x) (tl := [.val (.lst names), .val nV, .val rowsV, .val a, .val b, .val (.bl false), .val (.lst ds), .val (.lst es), .val c, .val (.lst us), .un, .un, .un, .un, .un, .un, .un, .un, .un, .un, .un, .un, .un]) B13
  obtain ⟨L', B', s15, s16, s17, a15⟩ := l15_17 x a b (.bl false) c ds es us d13 n13 m m1 m2 st14 (sSeq l18 (sSeq l19 (sSeq l20 (sSeq l21 l22))))
  obtain ⟨w, h, st18, a18, B18, w1, w2, h1, h2⟩ := l18_ok (x := x) (tl := [.val (.lst names), .val nV, .val rowsV, .val a, .val b, .val (.bl false), .val (.lst ds), .val (.lst es), .val c, .val (.lst us), .val (.int m), .val (rowsD L'), .val (rowsD B'), s15, s16, s17, .un, .un, .un, .un, .un, .un, .un]) B14
  obtain ⟨d, a19⟩ := l1920 x nV rowsV b (.val (.bl false)) (.val (.lst ds)) (.val (.lst es)) (.val c) (.val (.lst us)) (.val (.int m)) (.val (rowsD L')) (.val (rowsD B')) s15 s16 s17 st18 w h w1 w2 h1 h2 a ha (sSeq l21 l22)
  have a21 := l21_ok' x (.val nV) (.val rowsV) (.val a) (.val b) (.val (.bl false)) (.val (.lst ds)) (.val (.lst es)) (.val c) (.val (.lst us)) (.val (.int m)) (.val (rowsD L')) (.val (rowsD B')) s15 s16 s17 (.val (.int w)) (.val (.int h)) (.val d) st18
  have a22 := l22_ok x (.val nV) (.val rowsV) (.val a) (.val b) (.val (.bl false)) (.val (.lst ds)) (.val (.lst es)) (.val c) (.val (.lst us)) (.val (.int m)) (.val (rowsD L')) (.val (rowsD B')) s15 s16 s17 (.val (.int w)) (.val (.int h)) (.val d) st18
  refine ⟨st18, ?_⟩
  unfold f_law
  refine fn_rt (ρ := ⟨[.val x, .val (.loc 0), .val (.lst names), .val nV, .val rowsV, .val a, .val b, .val (.bl false), .val (.lst ds), .val (.lst es), .val c, .val (.lst us), .val (.int m), .val (rowsD L'), .val (rowsD B'), s15, s16, s17, .val (.int w), .val (.int h), .val d, .un, .un, .un, .un], st18⟩) ?_
  unfold m_law
  rw [seq_nx a1]
  have c1 : ∀ K, sCell 1 K ⟨.val x :: .own (box (is.map .int) 0) :: un23, []⟩ = K ⟨.val x :: .val (.loc 0) :: un23, [box (is.map .int) 0]⟩ := fun K => rfl
  rw [c1, seq5 (segC x _)]
  refine (seq_nx a7).trans ((seq_nx a8).trans ((seq_nx a9).trans ((seq_nx a10).trans ((seq_nx a11).trans ((seq_nx a12).trans ((seq_nx a13).trans ((seq_nx a14).trans ?_)))))))
  refine a15.trans ((seq_nx a18).trans ?_)
  refine a19.trans ((seq_nx a21).trans a22)
end BZ.k01
end
set_option Elab.async false
set_option linter.all false
set_option maxRecDepth 100000
open PySem PySem.W PyProof.Rows BZ BZ.k01
set_option maxHeartbeats 0 in
theorem PySem.Challenge.cw_blazonstold_k01_tinctures_and_hatchings_holds : PySem.Challenge.rw_blazonstold_k01_tinctures_and_hatchings.Holds := by
  w_on; o_law; k_head; (case hw => w_witness2)
  k_fill
  refine BZ.walk_ofTop (l := PySem.Challenge.rw_blazonstold_k01_tinctures_and_hatchings) (n := 63) (k := 5) (x := "script") rfl (by decide) rfl ⟨rfl, by decide, by decide⟩ (fun w h Y => PySem.W.kIn_of Y) ?F
  intro w mg mb fa h loose mean Y KX G TT hmg
  obtain ⟨f__law_draws, fd__law_draws, c__law_draws, E__law_draws⟩ : ∃ f fd cd, FE _ mg "_law_draws" t__law_draws f fd cd := by
    refine' ⟨_, _, _, fn_entry KX G ?a ?l ?c ?k⟩; (case a => k_is); (case l => k_is); (case c => k_is); (case k => k_is)
  obtain ⟨f__law_box, fd__law_box, c__law_box, E__law_box⟩ : ∃ f fd cd, FE _ mg "_law_box" t__law_box f fd cd := by
    refine' ⟨_, _, _, fn_entry KX G ?a ?l ?c ?k⟩; (case a => k_is); (case l => k_is); (case c => k_is); (case k => k_is)
  obtain ⟨f__law_signs, fd__law_signs, c__law_signs, E__law_signs⟩ : ∃ f fd cd, FE _ mg "_law_signs" t__law_signs f fd cd := by
    refine' ⟨_, _, _, fn_entry KX G ?a ?l ?c ?k⟩; (case a => k_is); (case l => k_is); (case c => k_is); (case k => k_is)
  obtain ⟨f__law_hatch, fd__law_hatch, c__law_hatch, E__law_hatch⟩ : ∃ f fd cd, FE _ mg "_law_hatch" t__law_hatch f fd cd := by
    refine' ⟨_, _, _, fn_entry KX G ?a ?l ?c ?k⟩; (case a => k_is); (case l => k_is); (case c => k_is); (case k => k_is)
  obtain ⟨f__law_kind, fd__law_kind, c__law_kind, E__law_kind⟩ : ∃ f fd cd, FE _ mg "_law_kind" t__law_kind f fd cd := by
    refine' ⟨_, _, _, fn_entry KX G ?a ?l ?c ?k⟩; (case a => k_is); (case l => k_is); (case c => k_is); (case k => k_is)
  obtain ⟨f__law_lie, fd__law_lie, c__law_lie, E__law_lie⟩ : ∃ f fd cd, FE _ mg "_law_lie" t__law_lie f fd cd := by
    refine' ⟨_, _, _, fn_entry KX G ?a ?l ?c ?k⟩; (case a => k_is); (case l => k_is); (case c => k_is); (case k => k_is)
  obtain ⟨f__law_next, fd__law_next, c__law_next, E__law_next⟩ : ∃ f fd cd, FE _ mg "_law_next" t__law_next f fd cd := by
    refine' ⟨_, _, _, fn_entry KX G ?a ?l ?c ?k⟩; (case a => k_is); (case l => k_is); (case c => k_is); (case k => k_is)
  obtain ⟨f__law_one, fd__law_one, c__law_one, E__law_one⟩ : ∃ f fd cd, FE _ mg "_law_one" t__law_one f fd cd := by
    refine' ⟨_, _, _, fn_entry KX G ?a ?l ?c ?k⟩; (case a => k_is); (case l => k_is); (case c => k_is); (case k => k_is)
  obtain ⟨f__law_tinctures, fd__law_tinctures, c__law_tinctures, E__law_tinctures⟩ : ∃ f fd cd, FE _ mg "_law_tinctures" t__law_tinctures f fd cd := by
    refine' ⟨_, _, _, fn_entry KX G ?a ?l ?c ?k⟩; (case a => k_is); (case l => k_is); (case c => k_is); (case k => k_is)
  obtain ⟨f_kind, fd_kind, c_kind, E_kind⟩ : ∃ f fd cd, FE _ mg "kind" t_kind f fd cd := by
    refine' ⟨_, _, _, fn_entry KX G ?a ?l ?c ?k⟩; (case a => k_is); (case l => k_is); (case c => k_is); (case k => k_is)
  obtain ⟨f_may_lie, fd_may_lie, c_may_lie, E_may_lie⟩ : ∃ f fd cd, FE _ mg "may_lie" t_may_lie f fd cd := by
    refine' ⟨_, _, _, fn_entry KX G ?a ?l ?c ?k⟩; (case a => k_is); (case l => k_is); (case c => k_is); (case k => k_is)
  obtain ⟨f_all_that_may, fd_all_that_may, c_all_that_may, P_all_that_may, X_all_that_may⟩ : ∃ f fd c P, FT _ h mg "all_that_may" t_all_that_may f fd c P := by
    refine' ⟨_, _, _, _, fn_entryT KX G TT ?a ?l ?c ?k ?hr ?lc ?hv ?nk⟩; (case a => k_is); (case l => k_is); (case c => k_is); (case k => k_is); (case hr => rfl); (case lc => k_is); (case hv => rfl); (case nk => kernel_rfl)
  have E_all_that_may := X_all_that_may.fe
  obtain ⟨f_contrasts, fd_contrasts, c_contrasts, E_contrasts⟩ : ∃ f fd cd, FE _ mg "contrasts" t_contrasts f fd cd := by
    refine' ⟨_, _, _, fn_entry KX G ?a ?l ?c ?k⟩; (case a => k_is); (case l => k_is); (case c => k_is); (case k => k_is)
  obtain ⟨f_pairs_that_may, fd_pairs_that_may, c_pairs_that_may, E_pairs_that_may⟩ : ∃ f fd cd, FE _ mg "pairs_that_may" t_pairs_that_may f fd cd := by
    refine' ⟨_, _, _, fn_entry KX G ?a ?l ?c ?k⟩; (case a => k_is); (case l => k_is); (case c => k_is); (case k => k_is)
  obtain ⟨f_count_pairs, fd_count_pairs, c_count_pairs, E_count_pairs⟩ : ∃ f fd cd, FE _ mg "count_pairs" t_count_pairs f fd cd := by
    refine' ⟨_, _, _, fn_entry KX G ?a ?l ?c ?k⟩; (case a => k_is); (case l => k_is); (case c => k_is); (case k => k_is)
  obtain ⟨f_exchanged, fd_exchanged, c_exchanged, E_exchanged⟩ : ∃ f fd cd, FE _ mg "exchanged" t_exchanged f fd cd := by
    refine' ⟨_, _, _, fn_entry KX G ?a ?l ?c ?k⟩; (case a => k_is); (case l => k_is); (case c => k_is); (case k => k_is)
  obtain ⟨f_hatch, fd_hatch, c_hatch, E_hatch⟩ : ∃ f fd cd, FE _ mg "hatch" t_hatch f fd cd := by
    refine' ⟨_, _, _, fn_entry KX G ?a ?l ?c ?k⟩; (case a => k_is); (case l => k_is); (case c => k_is); (case k => k_is)
  obtain ⟨f_from_hatch, fd_from_hatch, c_from_hatch, E_from_hatch⟩ : ∃ f fd cd, FE _ mg "from_hatch" t_from_hatch f fd cd := by
    refine' ⟨_, _, _, fn_entry KX G ?a ?l ?c ?k⟩; (case a => k_is); (case l => k_is); (case c => k_is); (case k => k_is)
  obtain ⟨f_from_letter, fd_from_letter, c_from_letter, E_from_letter⟩ : ∃ f fd cd, FE _ mg "from_letter" t_from_letter f fd cd := by
    refine' ⟨_, _, _, fn_entry KX G ?a ?l ?c ?k⟩; (case a => k_is); (case l => k_is); (case c => k_is); (case k => k_is)
  obtain ⟨f_is_tincture, fd_is_tincture, c_is_tincture, E_is_tincture⟩ : ∃ f fd cd, FE _ mg "is_tincture" t_is_tincture f fd cd := by
    refine' ⟨_, _, _, fn_entry KX G ?a ?l ?c ?k⟩; (case a => k_is); (case l => k_is); (case c => k_is); (case k => k_is)
  obtain ⟨f_letter, fd_letter, c_letter, E_letter⟩ : ∃ f fd cd, FE _ mg "letter" t_letter f fd cd := by
    refine' ⟨_, _, _, fn_entry KX G ?a ?l ?c ?k⟩; (case a => k_is); (case l => k_is); (case c => k_is); (case k => k_is)
  obtain ⟨f_longest_rows, fd_longest_rows, c_longest_rows, E_longest_rows⟩ : ∃ f fd cd, FE _ mg "longest_rows" t_longest_rows f fd cd := by
    refine' ⟨_, _, _, fn_entry KX G ?a ?l ?c ?k⟩; (case a => k_is); (case l => k_is); (case c => k_is); (case k => k_is)
  obtain ⟨f_may_touch, fd_may_touch, c_may_touch, E_may_touch⟩ : ∃ f fd cd, FE _ mg "may_touch" t_may_touch f fd cd := by
    refine' ⟨_, _, _, fn_entry KX G ?a ?l ?c ?k⟩; (case a => k_is); (case l => k_is); (case c => k_is); (case k => k_is)
  obtain ⟨f_law, fd_law, c_law, E_law⟩ : ∃ f fd cd, FE _ mg "law" t_law f fd cd := by
    refine' ⟨_, _, _, fn_entry KX G ?a ?l ?c ?k⟩; (case a => k_is); (case l => k_is); (case c => k_is); (case k => k_is)
  have B_all : mg "all" = none := PySem.W.mg_none_of KX G (by k_is)
  have B_bool : mg "bool" = none := PySem.W.mg_none_of KX G (by k_is)
  have B_dict : mg "dict" = none := PySem.W.mg_none_of KX G (by k_is)
  have B_enumerate : mg "enumerate" = none := PySem.W.mg_none_of KX G (by k_is)
  have B_int : mg "int" = none := PySem.W.mg_none_of KX G (by k_is)
  have B_isinstance : mg "isinstance" = none := PySem.W.mg_none_of KX G (by k_is)
  have B_len : mg "len" = none := PySem.W.mg_none_of KX G (by k_is)
  have B_list : mg "list" = none := PySem.W.mg_none_of KX G (by k_is)
  have B_range : mg "range" = none := PySem.W.mg_none_of KX G (by k_is)
  have B_set : mg "set" = none := PySem.W.mg_none_of KX G (by k_is)
  have B_sorted : mg "sorted" = none := PySem.W.mg_none_of KX G (by k_is)
  have B_str : mg "str" = none := PySem.W.mg_none_of KX G (by k_is)
  have B_zip : mg "zip" = none := PySem.W.mg_none_of KX G (by k_is)
  have G_COLOURS := glob_mk (w := w) (x := "COLOURS") (d := g_COLOURS) KX G (by k_is) (by kernel_rfl)
  have G_HATCHES := globD_mk (w := w) (x := "HATCHES") (ks := [(.str "or"), (.str "argent"), (.str "gules"), (.str "azure"), (.str "sable"), (.str "vert"), (.str "purpure"), (.str "ermine"), (.str "vair")]) (vs := [(.str ". "), (.str "  "), (.str "||"), (.str "--"), (.str "##"), (.str "\\ "), (.str "/ "), (.str "^ "), (.str "v^")]) (ss := ["or", "argent", "gules", "azure", "sable", "vert", "purpure", "ermine", "vair"]) KX G (by k_is) (by k_is) (by kernel_rfl) (by kernel_rfl) (by kernel_rfl) (by kernel_rfl)
  have G_LETTERS := globD_mk (w := w) (x := "LETTERS") (ks := [(.str "or"), (.str "argent"), (.str "gules"), (.str "azure"), (.str "sable"), (.str "vert"), (.str "purpure"), (.str "ermine"), (.str "vair")]) (vs := [(.str "O"), (.str "A"), (.str "G"), (.str "B"), (.str "S"), (.str "V"), (.str "P"), (.str "E"), (.str "W")]) (ss := ["or", "argent", "gules", "azure", "sable", "vert", "purpure", "ermine", "vair"]) KX G (by k_is) (by k_is) (by kernel_rfl) (by kernel_rfl) (by kernel_rfl) (by kernel_rfl)
  have G_METALS := glob_mk (w := w) (x := "METALS") (d := g_METALS) KX G (by k_is) (by kernel_rfl)
  have G_TINCTURES := glob_mk (w := w) (x := "TINCTURES") (d := g_TINCTURES) KX G (by k_is) (by kernel_rfl)
  have el := hmg.symm.trans E_law.mg
  cases el
  refine ⟨fd_law, [(c_all_that_may, P_all_that_may)], spD (fun P => ∃ p ∈ ([(c_all_that_may, P_all_that_may)] : List (Addr × Addr)), p.2 = P) ⟨kOf KX, w⟩ mg 1 BZ.k01.f_law, (fun p hp => by
      rcases List.mem_cons.mp hp with rfl | hp
      · exact X_all_that_may.tb
      exact absurd hp (List.not_mem_nil)), (fun p hp => by
      rcases List.mem_cons.mp hp with rfl | hp
      · exact X_all_that_may.nk
      exact absurd hp (List.not_mem_nil)), (fun p hp => by
      rcases List.mem_cons.mp hp with rfl | hp
      · exact X_all_that_may.hd
      exact absurd hp (List.not_mem_nil)), fe_bindsTo E_law (fun _ _ _ _ _ _ _ => rfl), fun H a ns hl hb hT hS => sp_law (math ns hl) hT hS, fun base KI NS hTB => ?_⟩
  have TB_all_that_may := TabB.gx (hTB (c_all_that_may, P_all_that_may) (by simp))
  have hT_all_that_may : ∃ p ∈ ([(c_all_that_may, P_all_that_may)] : List (Addr × Addr)), p.2 = P_all_that_may := ⟨(c_all_that_may, P_all_that_may), by simp, rfl⟩
  have C__law_draws := cal3 E__law_draws (ok__law_draws (P := PySem.Challenge.pw_blazonstold_k01_tinctures_and_hatchings) (w := w) (base := base) (T := fun P => ∃ p ∈ ([(c_all_that_may, P_all_that_may)] : List (Addr × Addr)), p.2 = P) E__law_draws.fn B_int B_range)
  have C__law_box := cal1 E__law_box (ok__law_box (P := PySem.Challenge.pw_blazonstold_k01_tinctures_and_hatchings) (w := w) (base := base) (T := fun P => ∃ p ∈ ([(c_all_that_may, P_all_that_may)] : List (Addr × Addr)), p.2 = P) E__law_box.fn C__law_draws B_len)
  have C__law_signs := cal0 E__law_signs (ok__law_signs (P := PySem.Challenge.pw_blazonstold_k01_tinctures_and_hatchings) (w := w) (base := base) (T := fun P => ∃ p ∈ ([(c_all_that_may, P_all_that_may)] : List (Addr × Addr)), p.2 = P) E__law_signs.fn B_dict)
  have C__law_hatch := cal3 E__law_hatch (ok__law_hatch (P := PySem.Challenge.pw_blazonstold_k01_tinctures_and_hatchings) (w := w) (base := base) (T := fun P => ∃ p ∈ ([(c_all_that_may, P_all_that_may)] : List (Addr × Addr)), p.2 = P) E__law_hatch.fn C__law_signs B_range)
  have C__law_kind := cal1 E__law_kind (ok__law_kind (P := PySem.Challenge.pw_blazonstold_k01_tinctures_and_hatchings) (w := w) (base := base) (T := fun P => ∃ p ∈ ([(c_all_that_may, P_all_that_may)] : List (Addr × Addr)), p.2 = P) E__law_kind.fn)
  have C__law_lie := cal2 E__law_lie (ok__law_lie (P := PySem.Challenge.pw_blazonstold_k01_tinctures_and_hatchings) (w := w) (base := base) (T := fun P => ∃ p ∈ ([(c_all_that_may, P_all_that_may)] : List (Addr × Addr)), p.2 = P) E__law_lie.fn C__law_kind)
  have C__law_next := cal2 E__law_next (ok__law_next (P := PySem.Challenge.pw_blazonstold_k01_tinctures_and_hatchings) (w := w) (base := base) (T := fun P => ∃ p ∈ ([(c_all_that_may, P_all_that_may)] : List (Addr × Addr)), p.2 = P) E__law_next.fn B_int B_len)
  have C__law_one := cal2 E__law_one (ok__law_one (P := PySem.Challenge.pw_blazonstold_k01_tinctures_and_hatchings) (w := w) (base := base) (T := fun P => ∃ p ∈ ([(c_all_that_may, P_all_that_may)] : List (Addr × Addr)), p.2 = P) E__law_one.fn C__law_next B_len)
  have C__law_tinctures := cal0 E__law_tinctures (ok__law_tinctures (P := PySem.Challenge.pw_blazonstold_k01_tinctures_and_hatchings) (w := w) (base := base) (T := fun P => ∃ p ∈ ([(c_all_that_may, P_all_that_may)] : List (Addr × Addr)), p.2 = P) E__law_tinctures.fn)
  have C_kind := cal1 E_kind (ok_kind (P := PySem.Challenge.pw_blazonstold_k01_tinctures_and_hatchings) (w := w) (base := base) (T := fun P => ∃ p ∈ ([(c_all_that_may, P_all_that_may)] : List (Addr × Addr)), p.2 = P) E_kind.fn G_COLOURS G_METALS)
  have C_may_lie := cal2 E_may_lie (ok_may_lie (P := PySem.Challenge.pw_blazonstold_k01_tinctures_and_hatchings) (w := w) (base := base) (T := fun P => ∃ p ∈ ([(c_all_that_may, P_all_that_may)] : List (Addr × Addr)), p.2 = P) E_may_lie.fn C_kind)
  have C_all_that_may := cal1 E_all_that_may (ok_all_that_may (P := PySem.Challenge.pw_blazonstold_k01_tinctures_and_hatchings) (w := w) (base := base) (T := fun P => ∃ p ∈ ([(c_all_that_may, P_all_that_may)] : List (Addr × Addr)), p.2 = P) E_all_that_may.fn C_may_lie B_all G_TINCTURES TB_all_that_may hT_all_that_may E_all_that_may.cd)
  have C_contrasts := cal1 E_contrasts (ok_contrasts (P := PySem.Challenge.pw_blazonstold_k01_tinctures_and_hatchings) (w := w) (base := base) (T := fun P => ∃ p ∈ ([(c_all_that_may, P_all_that_may)] : List (Addr × Addr)), p.2 = P) E_contrasts.fn C_may_lie B_enumerate B_zip)
  have C_pairs_that_may := cal0 E_pairs_that_may (ok_pairs_that_may (P := PySem.Challenge.pw_blazonstold_k01_tinctures_and_hatchings) (w := w) (base := base) (T := fun P => ∃ p ∈ ([(c_all_that_may, P_all_that_may)] : List (Addr × Addr)), p.2 = P) E_pairs_that_may.fn C_may_lie G_TINCTURES)
  have C_count_pairs := cal0 E_count_pairs (ok_count_pairs (P := PySem.Challenge.pw_blazonstold_k01_tinctures_and_hatchings) (w := w) (base := base) (T := fun P => ∃ p ∈ ([(c_all_that_may, P_all_that_may)] : List (Addr × Addr)), p.2 = P) E_count_pairs.fn C_pairs_that_may B_len)
  have C_exchanged := cal3 E_exchanged (ok_exchanged (P := PySem.Challenge.pw_blazonstold_k01_tinctures_and_hatchings) (w := w) (base := base) (T := fun P => ∃ p ∈ ([(c_all_that_may, P_all_that_may)] : List (Addr × Addr)), p.2 = P) E_exchanged.fn)
  have C_hatch := cal3 E_hatch (ok_hatch (P := PySem.Challenge.pw_blazonstold_k01_tinctures_and_hatchings) (w := w) (base := base) (T := fun P => ∃ p ∈ ([(c_all_that_may, P_all_that_may)] : List (Addr × Addr)), p.2 = P) E_hatch.fn B_range G_HATCHES)
  have C_from_hatch := cal1 E_from_hatch (ok_from_hatch (P := PySem.Challenge.pw_blazonstold_k01_tinctures_and_hatchings) (w := w) (base := base) (T := fun P => ∃ p ∈ ([(c_all_that_may, P_all_that_may)] : List (Addr × Addr)), p.2 = P) E_from_hatch.fn C_hatch B_len B_list G_TINCTURES)
  have C_from_letter := cal1 E_from_letter (ok_from_letter (P := PySem.Challenge.pw_blazonstold_k01_tinctures_and_hatchings) (w := w) (base := base) (T := fun P => ∃ p ∈ ([(c_all_that_may, P_all_that_may)] : List (Addr × Addr)), p.2 = P) E_from_letter.fn G_LETTERS G_TINCTURES)
  have C_is_tincture := cal1 E_is_tincture (ok_is_tincture (P := PySem.Challenge.pw_blazonstold_k01_tinctures_and_hatchings) (w := w) (base := base) (T := fun P => ∃ p ∈ ([(c_all_that_may, P_all_that_may)] : List (Addr × Addr)), p.2 = P) E_is_tincture.fn B_isinstance B_str G_TINCTURES)
  have C_letter := cal1 E_letter (ok_letter (P := PySem.Challenge.pw_blazonstold_k01_tinctures_and_hatchings) (w := w) (base := base) (T := fun P => ∃ p ∈ ([(c_all_that_may, P_all_that_may)] : List (Addr × Addr)), p.2 = P) E_letter.fn G_LETTERS)
  have C_longest_rows := cal2 E_longest_rows (ok_longest_rows (P := PySem.Challenge.pw_blazonstold_k01_tinctures_and_hatchings) (w := w) (base := base) (T := fun P => ∃ p ∈ ([(c_all_that_may, P_all_that_may)] : List (Addr × Addr)), p.2 = P) E_longest_rows.fn C_may_lie B_range)
  have C_may_touch := cal2 E_may_touch (ok_may_touch (P := PySem.Challenge.pw_blazonstold_k01_tinctures_and_hatchings) (w := w) (base := base) (T := fun P => ∃ p ∈ ([(c_all_that_may, P_all_that_may)] : List (Addr × Addr)), p.2 = P) E_may_touch.fn)
  exact ok_law E_law.fn C__law_box C__law_hatch C__law_kind C__law_lie C__law_next C__law_one C__law_tinctures C_all_that_may C_contrasts C_count_pairs C_exchanged C_from_hatch C_from_letter C_hatch C_is_tincture C_kind C_letter C_longest_rows C_may_lie C_may_touch C_pairs_that_may B_all B_int B_isinstance B_len B_range B_set B_sorted B_bool
